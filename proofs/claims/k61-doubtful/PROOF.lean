import PyProof.Rows.All
import Wide.All
import OpenK.AllK
import Wide.FinOn
import HandS.ForMost
import KE.KStateDown
import KE.KSuper
import HandS.Head0
import HandS.Head1
import HandS.Head2
import HandS.HeadEnd
import HandS.HeadHook1
import HandS.HeadHook2
import HandS.Words
import HandS.ExcSuper
import KE.KExcLine
import KE.RegKSuper
import PySem.Challenge.RW_moonfall_k61_whole_doubtful
import KE.KDictKeyed
import HandS.TupAny
import HandS.Style
import KE.SortData
import KE.DataCmp
import KE.DatumOrd
import PyProof.P3In
import HandS.TupLen
import HandS.Iter
import KE.KDictWalk
import HandS.DictComp
import KE.KDictPairs
import HandS.More
import KE.KDictCopyH
import KE.KDictSum
import HandS.Zip
import HandS.IsInst
import KE.GoesMore
import HandS.DictTup
import HandS.Star
import KE.KDictItemsList
import PyProof.Transfer
import HandS.Dict
import PyProof.MaxThree
import PyProof.EqAt
import PyProof.EqKinds
import HandS.Remove
import KE.KDictList
import KE.KDictDisplayH
import PyProof.TupleOfSeq
import HandS.Conv
import HandS.OwnEq
import HandS.TupSets
import HandS.Comp
import HandS.SetFor
import HandS.Strs
import KE.KSortAsk
import KE.SortCalls
import KE.LtData
import KE.KSortTup
import KE.DataMinMax
import HandS.ForExc
import HandS.ExcField
import KE.KExcInit
import KE.KExcSuper
import HandS.ExcIs
import KE.GoesComp
set_option Elab.async false
set_option linter.all false
set_option maxRecDepth 100000
set_option maxHeartbeats 4000000
namespace HB
open PySem PySem.Spec PyProof.Rows L2
/-- a list of addresses worked out ahead -/
def frA {α : Type} : List Addr → (List Addr → α) → α
  | [], k => k []
  | a :: r, k => HandSHeadRun.frNat a fun a => frA r fun r => k (a :: r)
def nx1 (o : Obj) : List Addr := match o.data with
  | .cls cd => [cd.ns]
  | .dict es _ => es.toList.flatMap fun e => He.refV e.val
  | .func fd => He.refV fd.code ++ fd.closure.map (·.2)
  | _ => []
def lv (g : Addr → Option Obj) (as : List Addr) : List Addr := as.flatMap fun a => match g a with
  | some o => nx1 o
  | none => []
def isCl (g : Addr → Option Obj) (a : Addr) : Bool := match g a with
  | some ⟨_, _, .cls _, _⟩ => true
  | _ => false
/-- the classes and what they hold stand first: most looks go there -/
def asB (g : Addr → Option Obj) : List Addr :=
  frA (lv g [mainGlobals]) fun l1 => frA (l1.filter (isCl g)) fun c1 => frA (lv g c1) fun n1 => frA (lv g n1) fun m1 => frA (l1.filter fun a => !isCl g a) fun r1 =>
    [mainGlobals, cStatics] ++ (c1 ++ (n1 ++ (m1 ++ (r1 ++ (lv g m1 ++ lv g r1)))))
def frO {α : Type} (o : Obj) (k : Obj → α) : α := match o with
  | ⟨c, d, dt, sl⟩ => k ⟨c, d, dt, sl⟩
theorem zyf {α : Type} (o : Obj) (k : Obj → α) : frO o k = k o := by cases o; rfl
def frL {α : Type} : PySem.W.Frag → (PySem.W.Frag → α) → α
  | [], k => k []
  | (a, o) :: r, k => HandSHeadRun.frNat a fun a => frO o fun o => frL r fun r => k ((a, o) :: r)
theorem zo2 {α : Type} : ∀ (K : PySem.W.Frag) (k : PySem.W.Frag → α), frL K k = k K
  | [], _ => rfl
  | (a, o) :: r, k => by
    show HandSHeadRun.frNat a (fun a => frO o fun o => frL r fun r => k ((a, o) :: r)) = _
    rw [HandSHeadRun.frNat_eq, zyf, zo2 r]
structure DefB where
  at_ : Str × Option Str
  name : Str
  qual : Str
  params : Arguments
  body : List Stmt
  scope : Scope
  clo : List Str := []
abbrev FnV : Type := Option (Str × Str × Arguments × FuncBody × Scope × Addr × List Str × Value × Addr)
def fnO (K : PySem.W.Frag) (p : Str × Option Str) : FnV := match K.lookup (He.fAd K p) with
  | some ⟨_, _, .func fd, _⟩ => some (fd.name, fd.qualname, fd.params, fd.body, fd.scope, fd.globals, fd.closure.map (·.1), fd.defaults, fd.builtins)
  | _ => none
def DefB.val (d : DefB) : FnV := some (d.name, d.qual, d.params, .stmts d.body, d.scope, mainGlobals, d.clo, .none, builtinsNs)
/-- the code of a function -/
def cdV (K : PySem.W.Frag) (f : Addr) : Value := match K.lookup f with
  | some ⟨_, _, .func fd, _⟩ => fd.code
  | _ => .none
def cdA (K : PySem.W.Frag) (f : Addr) : Addr := match cdV K f with
  | .ref c => c
  | _ => 0
/-- the first cell of a function -/
def clA (K : PySem.W.Frag) (f : Addr) : Addr := match K.lookup f with
  | some ⟨_, _, .func fd, _⟩ => (match fd.closure with
    | (_, c) :: _ => c
    | _ => 0)
  | _ => 0
theorem zzf {K : PySem.W.Frag} {d : DefB} (hc : d.clo = []) (e : fnO K d.at_ = d.val) :
    ∃ oc od osl kV doc pm an ct, K.lookup (He.fAd K d.at_) = some ⟨oc, od, .func (PySem.W.fnOf d.name d.qual d.params d.body d.scope .none kV doc pm an (cdV K (He.fAd K d.at_)) ct), osl⟩ := by
  unfold fnO at e
  unfold cdV
  cases q : K.lookup (He.fAd K d.at_) with
  | none => rw [q] at e; cases e
  | some o =>
    obtain ⟨oc, od, dt, osl⟩ := o
    rw [q] at e
    cases dt with
    | func fd =>
      obtain ⟨n1, n2, n3, n4, n5, n6, n7, n8, n9, n10, n11, n12, n13, n14, n15⟩ := fd
      have e2 : (some (n1, n2, n3, n4, n5, n6, n7.map (·.1), n8, n15) : FnV) = some (d.name, d.qual, d.params, .stmts d.body, d.scope, mainGlobals, d.clo, .none, builtinsNs) := e
      simp only [Option.some.injEq, Prod.mk.injEq] at e2
      obtain ⟨h1, h2, h3, h4, h5, h6, h7, h8, h9⟩ := e2
      rw [hc] at h7
      have h7' : n7 = [] := by cases n7 with
        | nil => rfl
        | cons a b => cases h7
      subst h1 h2 h3 h4 h5 h6 h7' h8 h9
      exact ⟨oc, od, osl, n9, n10, n11, n12, n14, rfl⟩
    | _ => cases e
theorem zyq {K : PySem.W.Frag} {d : DefB} (hc : d.clo = ([("__class__" : Str)] : List Str)) (e : fnO K d.at_ = d.val) (hr : PySem.W.codeIn K (cdV K (He.fAd K d.at_)) d.qual = true) :
    ∃ oc od osl kV doc pm an ct, K.lookup (He.fAd K d.at_) = some ⟨oc, od, .func (PySem.W.ksFn d.name d.qual d.params d.body d.scope .none kV doc pm an (.ref (cdA K (He.fAd K d.at_))) ct (clA K (He.fAd K d.at_))), osl⟩ := by
  have hr' : cdV K (He.fAd K d.at_) = .ref (cdA K (He.fAd K d.at_)) := by
    unfold cdA
    cases q : cdV K (He.fAd K d.at_) with
    | ref c => rfl
    | _ => rw [q] at hr; cases hr
  rw [← hr']
  unfold fnO at e
  unfold cdV clA
  cases q : K.lookup (He.fAd K d.at_) with
  | none => rw [q] at e; cases e
  | some o =>
    obtain ⟨oc, od, dt, osl⟩ := o
    rw [q] at e
    cases dt with
    | func fd =>
      obtain ⟨n1, n2, n3, n4, n5, n6, n7, n8, n9, n10, n11, n12, n13, n14, n15⟩ := fd
      have e2 : (some (n1, n2, n3, n4, n5, n6, n7.map (·.1), n8, n15) : FnV) = some (d.name, d.qual, d.params, .stmts d.body, d.scope, mainGlobals, d.clo, .none, builtinsNs) := e
      simp only [Option.some.injEq, Prod.mk.injEq] at e2
      obtain ⟨h1, h2, h3, h4, h5, h6, h7, h8, h9⟩ := e2
      rw [hc] at h7
      match n7, h7 with
      | [(x, c)], h7 =>
        have hx : x = "__class__" := by simpa using h7
        subst h1 h2 h3 h4 h5 h6 hx h8 h9
        exact ⟨oc, od, osl, n9, n10, n11, n12, n14, rfl⟩
    | _ => cases e
def decB {α : Type} [DecidableEq α] (a b : α) : Bool := decide (a = b)
theorem zxl {α : Type} [DecidableEq α] {a b : α} (h : decB a b = true) : a = b := of_decide_eq_true h
/-- the code record at a: fields, the third is the file -/
def zvj (K : PySem.W.Frag) (a : Addr) (file : Str) : Bool := match K.lookup a with
  | some ⟨_, _, .fields vs, _⟩ => (match (vs[2]? : Option Value) with
    | some (.str f _) => file == f
    | _ => false)
  | _ => false
theorem zu0 {K : PySem.W.Frag} {a : Addr} {file : Str} (h : zvj K a file = true) :
    ∃ (ccl : Value) (cdd : Option Addr) (vs : Array Value) (ccs : Array (Option Value)) (f : Str) (tf : Tok), K.lookup a = some ⟨ccl, cdd, .fields vs, ccs⟩ ∧ vs[2]? = some (.str f tf) ∧ (file == f) = true := by
  unfold zvj at h
  cases q : K.lookup a with
  | none => rw [q] at h; cases h
  | some o =>
    obtain ⟨oc, od, dt, osl⟩ := o
    rw [q] at h
    cases dt with
    | fields vs =>
      have h1 : (match (vs[2]? : Option Value) with
        | some (.str f _) => file == f
        | _ => false) = true := h
      cases e : vs[2]? with
      | none => rw [e] at h1; cases h1
      | some v =>
        rw [e] at h1
        cases v with
        | str f t => exact ⟨oc, od, vs, osl, f, t, rfl, e, h1⟩
        | _ => cases h1
    | _ => cases h
def zur (K : PySem.W.Frag) (a c : Addr) : Bool := match K.lookup a with
  | some ⟨_, _, .cell (some (.ref b)), _⟩ => Nat.beq b c
  | _ => false
theorem zvo {K : PySem.W.Frag} {a c : Addr} (h : zur K a c = true) : ∃ (cl : Value) (cld : Option Addr) (csl : Array (Option Value)), K.lookup a = some ⟨cl, cld, .cell (some (.ref c)), csl⟩ := by
  unfold zur at h
  cases q : K.lookup a with
  | none => rw [q] at h; cases h
  | some o =>
    obtain ⟨oc, od, dt, osl⟩ := o
    rw [q] at h
    cases dt with
    | cell v =>
      cases v with
      | none => cases h
      | some v =>
        cases v with
        | ref b =>
          have e : b = c := Nat.eq_of_beq_eq_true h
          subst e
          exact ⟨oc, od, osl, rfl⟩
        | _ => cases h
    | _ => cases h
def intB (K : PySem.W.Frag) (x : Str) (i : Int) : Bool := match PySem.W.nsIn K mainGlobals x with
  | some (some (.int j _)) => decide (j = i)
  | _ => false
theorem zw2 {K : PySem.W.Frag} {x : Str} {i : Int} (h : intB K x i = true) : ∃ t, PySem.W.nsIn K mainGlobals x = some (some (.int i t)) := by
  unfold intB at h
  split at h
  · rename_i j t e
    have := of_decide_eq_true h
    subst this
    exact ⟨t, e⟩
  · cases h
abbrev Fs : Type := List (PySem.W.Frag → Bool)
abbrev Al : Type := Bool × List FnV
def obsB (fs : Fs) (fn : List DefB) (K : PySem.W.Frag) : Al := (fs.all fun f => f K, fn.map fun d => fnO K d.at_)
def valB (fn : List DefB) : Al := (true, fn.map DefB.val)
def zxq (fs : Fs) (fn : List DefB) (g : Addr → Option Obj) : Al := frL (He.frG g (asB g)) (obsB fs fn)
def zjy (fs : Fs) (fn : List DefB) (K : PySem.W.Frag) : Prop := obsB fs fn K = valB fn
def zlt (fs : Fs) (fn : List DefB) : PySem.W.Hook where
  α := Al
  obs := fun s => zxq fs fn s.heap.get?
  val := fun _ => valB fn
  says := fun _ h => ∃ K : PySem.W.Frag, K.In h ∧ zjy fs fn K
  of := fun _ _ e => ⟨_, He.frG_in, (zo2 _ _).symm.trans e⟩
  keeps := fun _ _ _ ⟨K, hK, c⟩ k => ⟨K, PySem.W.Frag.In.keeps hK k, c⟩
theorem zvh {fs : Fs} {fn : List DefB} {g : Addr → Option Obj} {s : Shared} (h : ∀ a, g a = s.heap.get? a) : zxq fs fn g = (zlt fs fn).obs s := by
  have e : g = s.heap.get? := funext h
  rw [e] <;> rfl
theorem zjy.fact {fs : Fs} {fn : List DefB} {K : PySem.W.Frag} (c : zjy fs fn K) (i : Nat) {f : PySem.W.Frag → Bool} (h : fs[i]? = some f) : f K = true :=
  List.all_eq_true.mp (show (fs.all fun f => f K) = true from congrArg (fun z : Al => z.1) c) f (List.mem_of_getElem? h)
theorem zjy.fn {fs : Fs} {fn : List DefB} {K : PySem.W.Frag} (c : zjy fs fn K) (i : Nat) {d : DefB} (h : fn[i]? = some d) : fnO K d.at_ = d.val := by
  have e : fn.map (fun d => fnO K d.at_) = fn.map DefB.val := congrArg (fun z : Al => z.2) c
  have e2 : (fn.map fun d => fnO K d.at_)[i]? = (fn.map DefB.val)[i]? := by rw [e]
  rw [List.getElem?_map, List.getElem?_map, h] at e2
  exact Option.some.inj e2
theorem zjy.q {fs : Fs} {fn : List DefB} {K : PySem.W.Frag} {b : Bool} (c : zjy fs fn K) (i : Nat) (h : (fs[i]?.map fun f => f K) = some b := by kernel_rfl) : b = true := by
  cases e : fs[i]? with
  | none => rw [e] at h; cases h
  | some f =>
    rw [e] at h
    rw [← Option.some.inj h]
    exact c.fact i e
theorem zjy.d {α : Type} [DecidableEq α] {fs : Fs} {fn : List DefB} {K : PySem.W.Frag} {x y : α} (c : zjy fs fn K) (i : Nat) (h : (fs[i]?.map fun f => f K) = some (decB x y) := by kernel_rfl) : x = y := zxl (c.q i h)
theorem zjy.f {fs : Fs} {fn : List DefB} {K : PySem.W.Frag} (c : zjy fs fn K) (d : DefB) (i : Nat) (hc : d.clo = [] := by rfl) (h : fn[i]? = some d := by kernel_rfl) :
    ∃ oc od osl kV doc pm an ct, K.lookup (He.fAd K d.at_) = some ⟨oc, od, .func (PySem.W.fnOf d.name d.qual d.params d.body d.scope .none kV doc pm an (cdV K (He.fAd K d.at_)) ct), osl⟩ := zzf hc (c.fn i h)
/-- the run, looked at piece by piece -/
def obB (fs : Fs) (fn : List DefB) (s : PySem.W.SharedT) : Al := zxq fs fn (HandSHeadRun.getT s)
theorem zs3 (fs : Fs) (fn : List DefB) (s : PySem.W.SharedT) : obB fs fn s = (zlt fs fn).obs s.abs := zvh (HandSHeadRun.getT_eq s)
theorem zp1 {r : PySem.W.OpenRow} {q : Program} {M : Nat} {loose : List Str} {w : World} {f1 f2 : Fs} {n1 n2 : List DefB} (h1 : HandSHeadRun.RunEq r q (zlt f1 n1) (obB f1 n1) M loose w) (h2 : HandSHeadRun.RunEq r q (zlt f2 n2) (obB f2 n2) M loose w) : HandSHeadRun.RunEq r q (zlt (f1 ++ f2) (n1 ++ n2)) (obB (f1 ++ f2) (n1 ++ n2)) M loose w := by
  intro os
  have a := h1 os
  have b := h2 os
  revert a b
  generalize HandSHeadRun.endF _ _ _ _ _ = e
  intro a b
  cases e with
  | none => cases a
  | some s =>
    have a := Option.some.inj a
    have b := Option.some.inj b
    injection a with a1 a2
    injection a2 with a2 a3
    injection b with _ b2
    injection b2 with _ b3
    have e1 : obsB f1 n1 (He.frG (HandSHeadRun.getT s) (asB (HandSHeadRun.getT s))) = valB n1 := (zo2 _ _).symm.trans a3
    have e2 : obsB f2 n2 (He.frG (HandSHeadRun.getT s) (asB (HandSHeadRun.getT s))) = valB n2 := (zo2 _ _).symm.trans b3
    have e3 : obB (f1 ++ f2) (n1 ++ n2) s = valB (n1 ++ n2) := by
      show frL _ _ = _
      rw [zo2]
      unfold obsB valB at e1 e2 ⊢
      injection e1 with p1 p2
      injection e2 with q1 q2
      rw [List.all_append, p1, q1, List.map_append, List.map_append, p2, q2]
      rfl
    exact congrArg some (Prod.ext a1 (Prod.ext a2 e3))
end HB
namespace DL
open PySem PySem.Spec PyProof.Rows L2
end DL
namespace M
open PySem PySem.Spec PyProof.Rows L2 DL
def top (i : Nat) : Stmt := PySem.Challenge.pw_moonfall_k61_whole_doubtful.main.body.getD i (.Pass ⟨0, 0, 0, 0⟩)
abbrev zb0 : Stmt := top 23
abbrev zef : Stmt := top 24
abbrev z9 : Stmt := top 22
abbrev za9 : Stmt := top 28
abbrev zau : Stmt := top 29
abbrev zaq : Stmt := top 30
abbrev zcq : Stmt := top 26
abbrev zc5 : Stmt := top 25
abbrev zam : Stmt := top 31
abbrev zaa : Stmt := top 8
abbrev zbn : Stmt := top 35
abbrev zo : Stmt := top 37
abbrev zab : Stmt := top 36
abbrev zt : Stmt := top 34
abbrev zq : Stmt := top 32
abbrev z2 : Stmt := top 33
abbrev zav : Stmt := top 39
abbrev zbq : Stmt := top 40
abbrev zbs : Stmt := top 41
abbrev zfk : Stmt := top 49
def dB0 : HB.DefB := ⟨(("nexts_to", none)), "nexts_to", "nexts_to", defArgs zb0, defBody zb0, defScope zb0, []⟩
def dB1 : HB.DefB := ⟨(("blobs", none)), "blobs", "blobs", defArgs zef, defBody zef, defScope zef, []⟩
def dB2 : HB.DefB := ⟨(("bright_cells", none)), "bright_cells", "bright_cells", defArgs z9, defBody z9, defScope z9, []⟩
def dB3 : HB.DefB := ⟨(("sure_cells", none)), "sure_cells", "sure_cells", defArgs za9, defBody za9, defScope za9, []⟩
def dB4 : HB.DefB := ⟨(("maybe_cells", none)), "maybe_cells", "maybe_cells", defArgs zau, defBody zau, defScope zau, []⟩
def dB5 : HB.DefB := ⟨(("sure_blobs", none)), "sure_blobs", "sure_blobs", defArgs zaq, defBody zaq, defScope zaq, []⟩
def dB6 : HB.DefB := ⟨(("size_by", none)), "size_by", "size_by", defArgs zcq, defBody zcq, defScope zcq, []⟩
def dB7 : HB.DefB := ⟨(("middle", none)), "middle", "middle", defArgs zc5, defBody zc5, defScope zc5, []⟩
def dB8 : HB.DefB := ⟨(("sure_points", none)), "sure_points", "sure_points", defArgs zam, defBody zam, defScope zam, []⟩
def dB9 : HB.DefB := ⟨(("check_most", none)), "check_most", "check_most", defArgs zaa, defBody zaa, defScope zaa, []⟩
def dB10 : HB.DefB := ⟨(("do_touch", none)), "do_touch", "do_touch", defArgs zbn, defBody zbn, defScope zbn, []⟩
def dB11 : HB.DefB := ⟨(("most_by_trying", none)), "most_by_trying", "most_by_trying", defArgs zo, defBody zo, defScope zo, []⟩
def dB12 : HB.DefB := ⟨(("most_apart", none)), "most_apart", "most_apart", defArgs zab, defBody zab, defScope zab, []⟩
def dB13 : HB.DefB := ⟨(("most_parts", none)), "most_parts", "most_parts", defArgs zt, defBody zt, defScope zt, []⟩
def dB14 : HB.DefB := ⟨(("doubtful_blobs", none)), "doubtful_blobs", "doubtful_blobs", defArgs zq, defBody zq, defScope zq, []⟩
def dB15 : HB.DefB := ⟨(("most_spots", none)), "most_spots", "most_spots", defArgs z2, defBody z2, defScope z2, []⟩
def dB16 : HB.DefB := ⟨(("_law_number", none)), "_law_number", "_law_number", defArgs zav, defBody zav, defScope zav, []⟩
def dB17 : HB.DefB := ⟨(("_law_take", none)), "_law_take", "_law_take", defArgs zbq, defBody zbq, defScope zbq, []⟩
def dB18 : HB.DefB := ⟨(("_law_pick", none)), "_law_pick", "_law_pick", defArgs zbs, defBody zbs, defScope zbs, []⟩
def dB19 : HB.DefB := ⟨(("law", none)), "law", "law", defArgs zfk, defBody zfk, defScope zfk, []⟩
def dB20 : HB.DefB := ⟨("TooMany", some "__init__"), "__init__", "TooMany.__init__", defArgs (inClass (top 7) 0), defBody (inClass (top 7) 0), defScope (inClass (top 7) 0), ["__class__"]⟩
def fsB0 : HB.Fs := [
  fun K => PySem.W.codeIn K (HB.cdV K (He.fAd K ("TooMany", some "__init__"))) "TooMany.__init__",
  fun K => HB.zvj K (HB.cdA K (He.fAd K ("TooMany", some "__init__"))) (PySem.Challenge.rw_moonfall_k61_whole_doubtful.prog.main.file : Str),
  fun K => HB.zur K (HB.clA K (He.fAd K ("TooMany", some "__init__"))) (He.ga K "TooMany"),
  fun K => HB.decB (PySem.W.nsIn K mainGlobals "TooMany") (some (some (.ref (He.ga K "TooMany")))),
  fun K => HB.decB (PySem.W.nsIn K mainGlobals "nexts_to") (some (some (.ref (He.fAd K ("nexts_to", none))))),
  fun K => PySem.W.codeIn K (HB.cdV K (He.fAd K ("nexts_to", none))) "nexts_to",
  fun K => PySem.W.keepIn K (.ref (He.fAd K ("nexts_to", none))),
  fun K => HB.decB (PySem.W.nsIn K mainGlobals "blobs") (some (some (.ref (He.fAd K ("blobs", none))))),
  fun K => PySem.W.codeIn K (HB.cdV K (He.fAd K ("blobs", none))) "blobs",
  fun K => PySem.W.keepIn K (.ref (He.fAd K ("blobs", none))),
  fun K => HB.decB (PySem.W.nsIn K mainGlobals "bright_cells") (some (some (.ref (He.fAd K ("bright_cells", none))))),
  fun K => PySem.W.codeIn K (HB.cdV K (He.fAd K ("bright_cells", none))) "bright_cells",
  fun K => PySem.W.keepIn K (.ref (He.fAd K ("bright_cells", none))),
  fun K => HB.decB (PySem.W.nsIn K mainGlobals "sure_cells") (some (some (.ref (He.fAd K ("sure_cells", none))))),
  fun K => PySem.W.codeIn K (HB.cdV K (He.fAd K ("sure_cells", none))) "sure_cells",
  fun K => PySem.W.keepIn K (.ref (He.fAd K ("sure_cells", none))),
  fun K => HB.decB (PySem.W.nsIn K mainGlobals "maybe_cells") (some (some (.ref (He.fAd K ("maybe_cells", none))))),
  fun K => PySem.W.codeIn K (HB.cdV K (He.fAd K ("maybe_cells", none))) "maybe_cells",
  fun K => PySem.W.keepIn K (.ref (He.fAd K ("maybe_cells", none))),
  fun K => HB.decB (PySem.W.nsIn K mainGlobals "sure_blobs") (some (some (.ref (He.fAd K ("sure_blobs", none))))),
  fun K => PySem.W.codeIn K (HB.cdV K (He.fAd K ("sure_blobs", none))) "sure_blobs",
  fun K => PySem.W.keepIn K (.ref (He.fAd K ("sure_blobs", none))),
  fun K => HB.decB (PySem.W.nsIn K mainGlobals "size_by") (some (some (.ref (He.fAd K ("size_by", none))))),
  fun K => PySem.W.codeIn K (HB.cdV K (He.fAd K ("size_by", none))) "size_by",
  fun K => PySem.W.keepIn K (.ref (He.fAd K ("size_by", none))),
  fun K => HB.decB (PySem.W.nsIn K mainGlobals "middle") (some (some (.ref (He.fAd K ("middle", none))))),
  fun K => PySem.W.codeIn K (HB.cdV K (He.fAd K ("middle", none))) "middle",
  fun K => PySem.W.keepIn K (.ref (He.fAd K ("middle", none))),
  fun K => HB.decB (PySem.W.nsIn K mainGlobals "sure_points") (some (some (.ref (He.fAd K ("sure_points", none))))),
  fun K => PySem.W.codeIn K (HB.cdV K (He.fAd K ("sure_points", none))) "sure_points"]
def fsB1 : HB.Fs := [
  fun K => PySem.W.keepIn K (.ref (He.fAd K ("sure_points", none))),
  fun K => HB.decB (PySem.W.nsIn K mainGlobals "check_most") (some (some (.ref (He.fAd K ("check_most", none))))),
  fun K => PySem.W.codeIn K (HB.cdV K (He.fAd K ("check_most", none))) "check_most",
  fun K => PySem.W.keepIn K (.ref (He.fAd K ("check_most", none))),
  fun K => HB.decB (PySem.W.nsIn K mainGlobals "do_touch") (some (some (.ref (He.fAd K ("do_touch", none))))),
  fun K => PySem.W.codeIn K (HB.cdV K (He.fAd K ("do_touch", none))) "do_touch",
  fun K => PySem.W.keepIn K (.ref (He.fAd K ("do_touch", none))),
  fun K => HB.decB (PySem.W.nsIn K mainGlobals "most_by_trying") (some (some (.ref (He.fAd K ("most_by_trying", none))))),
  fun K => PySem.W.codeIn K (HB.cdV K (He.fAd K ("most_by_trying", none))) "most_by_trying",
  fun K => PySem.W.keepIn K (.ref (He.fAd K ("most_by_trying", none))),
  fun K => HB.decB (PySem.W.nsIn K mainGlobals "most_apart") (some (some (.ref (He.fAd K ("most_apart", none))))),
  fun K => PySem.W.codeIn K (HB.cdV K (He.fAd K ("most_apart", none))) "most_apart",
  fun K => PySem.W.keepIn K (.ref (He.fAd K ("most_apart", none))),
  fun K => HB.decB (PySem.W.nsIn K mainGlobals "most_parts") (some (some (.ref (He.fAd K ("most_parts", none))))),
  fun K => PySem.W.codeIn K (HB.cdV K (He.fAd K ("most_parts", none))) "most_parts",
  fun K => PySem.W.keepIn K (.ref (He.fAd K ("most_parts", none))),
  fun K => HB.decB (PySem.W.nsIn K mainGlobals "doubtful_blobs") (some (some (.ref (He.fAd K ("doubtful_blobs", none))))),
  fun K => PySem.W.codeIn K (HB.cdV K (He.fAd K ("doubtful_blobs", none))) "doubtful_blobs",
  fun K => PySem.W.keepIn K (.ref (He.fAd K ("doubtful_blobs", none))),
  fun K => HB.decB (PySem.W.nsIn K mainGlobals "most_spots") (some (some (.ref (He.fAd K ("most_spots", none))))),
  fun K => PySem.W.codeIn K (HB.cdV K (He.fAd K ("most_spots", none))) "most_spots",
  fun K => PySem.W.keepIn K (.ref (He.fAd K ("most_spots", none))),
  fun K => HB.decB (PySem.W.nsIn K mainGlobals "_law_number") (some (some (.ref (He.fAd K ("_law_number", none))))),
  fun K => PySem.W.codeIn K (HB.cdV K (He.fAd K ("_law_number", none))) "_law_number",
  fun K => PySem.W.keepIn K (.ref (He.fAd K ("_law_number", none))),
  fun K => HB.decB (PySem.W.nsIn K mainGlobals "_law_take") (some (some (.ref (He.fAd K ("_law_take", none))))),
  fun K => PySem.W.codeIn K (HB.cdV K (He.fAd K ("_law_take", none))) "_law_take",
  fun K => PySem.W.keepIn K (.ref (He.fAd K ("_law_take", none))),
  fun K => HB.decB (PySem.W.nsIn K mainGlobals "_law_pick") (some (some (.ref (He.fAd K ("_law_pick", none))))),
  fun K => PySem.W.codeIn K (HB.cdV K (He.fAd K ("_law_pick", none))) "_law_pick"]
def fsB2 : HB.Fs := [
  fun K => PySem.W.keepIn K (.ref (He.fAd K ("_law_pick", none))),
  fun K => HB.decB (PySem.W.nsIn K mainGlobals "law") (some (some (.ref (He.fAd K ("law", none))))),
  fun K => PySem.W.codeIn K (HB.cdV K (He.fAd K ("law", none))) "law",
  fun K => PySem.W.keepIn K (.ref (He.fAd K ("law", none))),
  fun K => PySem.W.hasDictIn K (He.ga K "TooMany"),
  fun K => HB.decB (PySem.W.subIn K (.ref (He.ga K "TooMany")) (.type "BaseException")) (some true),
  fun K => HB.decB (PySem.W.typeIn K (.ref (He.ga K "TooMany"))) (some (.type "type")),
  fun K => HB.decB (PySem.W.findIn K (.ref (He.ga K "TooMany")) "__getattribute__") (some (some (.builtin "BaseException.__getattribute__"))),
  fun K => HB.decB (PySem.W.findIn K (.ref (He.ga K "TooMany")) "__getattr__") (some none),
  fun K => HB.decB (PySem.W.subIn K (.ref (He.ga K "TooMany")) (.ref (He.ga K "TooMany"))) (some true),
  fun K => HB.decB (PySem.W.findIn K (.ref (He.ga K "TooMany")) "most") (some none),
  fun K => PySem.W.excInitIn K (He.ga K "TooMany") PySem.ESX.exTail "Exception.__new__",
  fun K => PySem.W.excOver K (He.ga K "TooMany") PySem.ESX.exTail,
  fun K => HB.decB (PySem.W.takerIn K (He.ga K "TooMany") "most") (some none),
  fun K => HB.decB (PySem.W.findIn K (.ref (He.ga K "TooMany")) "__setattr__") (some (some (.builtin "object.__setattr__"))),
  fun K => HB.decB (PySem.W.findIn K (.ref (He.ga K "TooMany")) "__init__") (some (some (.ref (He.fAd K ("TooMany", some "__init__"))))),
  fun K => PySem.W.isFn K (.ref (He.fAd K ("TooMany", some "__init__"))),
  fun K => PySem.W.keepIn K (.ref (He.ga K "TooMany")),
  fun K => HB.decB (PySem.W.subIn K (.ref (He.ga K "TooMany")) (.type "Exception")) (some true),
  fun K => HB.decB (PySem.W.mroIn K (He.ga K "TooMany") (.ref (He.ga K "TooMany"))) (some true),
  fun K => HB.decB (PySem.W.ks_superIn K (He.ga K "TooMany") (He.ga K "TooMany") "__init__") (some (some (.builtin "Exception.__init__"))),
  fun K => PySem.W.codeIn K (.ref (HB.cdA K (He.fAd K ("TooMany", some "__init__")))) "TooMany.__init__",
  fun K => HB.decB (PySem.W.nsIn K cStatics "thirdparty.any") (some none),
  fun K => HB.decB (PySem.W.nsIn K mainGlobals "super") (some none),
  fun K => HB.decB (PySem.W.nsIn K mainGlobals "sorted") (some none),
  fun K => HB.decB (PySem.W.nsIn K mainGlobals "tuple") (some none),
  fun K => HB.decB (PySem.W.nsIn K mainGlobals "enumerate") (some none),
  fun K => HB.decB (PySem.W.nsIn K mainGlobals "all") (some none),
  fun K => HB.decB (PySem.W.nsIn K mainGlobals "len") (some none),
  fun K => HB.decB (PySem.W.nsIn K mainGlobals "min") (some none)]
def fsB3 : HB.Fs := [
  fun K => HB.decB (PySem.W.nsIn K mainGlobals "max") (some none),
  fun K => HB.decB (PySem.W.nsIn K mainGlobals "list") (some none),
  fun K => HB.decB (PySem.W.nsIn K mainGlobals "sum") (some none),
  fun K => HB.decB (PySem.W.nsIn K mainGlobals "int") (some none),
  fun K => HB.decB (PySem.W.nsIn K mainGlobals "range") (some none),
  fun K => HB.intB K "MOST_SIZE" 99]
def fpB0 : HB.Fs := fsB0
def fpB1 : HB.Fs := fsB1
def fpB2 : HB.Fs := fsB2
def fpB3 : HB.Fs := fsB3
def fnB0 : List HB.DefB := [dB0, dB1, dB2, dB3, dB4]
def fnB1 : List HB.DefB := [dB5, dB6, dB7, dB8, dB9]
def fnB2 : List HB.DefB := [dB10, dB11, dB12, dB13, dB14]
def fnB3 : List HB.DefB := [dB15, dB16, dB17, dB18, dB19, dB20]
def fsB : HB.Fs := fpB0 ++ (fpB1 ++ (fpB2 ++ (fpB3)))
def fnB : List HB.DefB := fnB0 ++ (fnB1 ++ (fnB2 ++ (fnB3)))
def zmm : List Str := (["_wall", "__name__", "MoonError", "BadGround", "BadCamera", "BadSky", "TooMany", "check_most", "MOST_PLACE", "MOST_SIZE", "MOST_SIDE", "MOST_COUNT", "MOST_STANDINGS", "is_whole", "is_point", "turned", "Ground", "Camera", "Sky", "bright_cells", "nexts_to", "blobs", "middle", "size_by", "sure_cells"] : List Str) ++ ((["maybe_cells", "sure_blobs", "sure_points", "doubtful_blobs", "most_spots", "most_parts", "do_touch", "most_apart", "most_by_trying", "_law_number", "_law_take", "_law_pick", "_law_ground", "_law_camera", "_law_sky", "_law_spots", "_law_picture", "_law_shares", "_law_fits"] : List Str))
abbrev hkB : PySem.W.Hook := HB.zlt fsB fnB
abbrev obB : PySem.W.SharedT → HB.Al := HB.obB fsB fnB
theorem zs3 (s : PySem.W.SharedT) : obB s = hkB.obs s.abs := HB.zs3 fsB fnB s
theorem zza (w : World) : HandSHeadRun.RunEq (PySem.W.OpenLaw.row PySem.Challenge.rw_moonfall_k61_whole_doubtful) (PySem.W.view (PySem.W.OpenLaw.row PySem.Challenge.rw_moonfall_k61_whole_doubtful).prog [49]) (HB.zlt fpB0 fnB0) (HB.obB fpB0 fnB0) 20000 zmm w := by
  intro os
  kernel_rfl
theorem zzg (w : World) : HandSHeadRun.RunEq (PySem.W.OpenLaw.row PySem.Challenge.rw_moonfall_k61_whole_doubtful) (PySem.W.view (PySem.W.OpenLaw.row PySem.Challenge.rw_moonfall_k61_whole_doubtful).prog [49]) (HB.zlt fpB1 fnB1) (HB.obB fpB1 fnB1) 20000 zmm w := by
  intro os
  kernel_rfl
theorem zzh (w : World) : HandSHeadRun.RunEq (PySem.W.OpenLaw.row PySem.Challenge.rw_moonfall_k61_whole_doubtful) (PySem.W.view (PySem.W.OpenLaw.row PySem.Challenge.rw_moonfall_k61_whole_doubtful).prog [49]) (HB.zlt fpB2 fnB2) (HB.obB fpB2 fnB2) 20000 zmm w := by
  intro os
  kernel_rfl
theorem zzk (w : World) : HandSHeadRun.RunEq (PySem.W.OpenLaw.row PySem.Challenge.rw_moonfall_k61_whole_doubtful) (PySem.W.view (PySem.W.OpenLaw.row PySem.Challenge.rw_moonfall_k61_whole_doubtful).prog [49]) (HB.zlt fpB3 fnB3) (HB.obB fpB3 fnB3) 20000 zmm w := by
  intro os
  kernel_rfl
theorem runB (w : World) : HandSHeadRun.RunEq (PySem.W.OpenLaw.row PySem.Challenge.rw_moonfall_k61_whole_doubtful) (PySem.W.view (PySem.W.OpenLaw.row PySem.Challenge.rw_moonfall_k61_whole_doubtful).prog [49]) hkB obB 20000 zmm w :=
  HB.zp1 (zza w) (HB.zp1 (zzg w) (HB.zp1 (zzh w) (zzk w)))
end M
namespace DL
open PySem PySem.Spec PyProof.Rows L2
inductive Kd where
  | tup | lst | scr | ins (C : Addr) (fs : List Str) | dK (ks : List Key) | dN (ks : List NestedKey)
/-- a value as a tree; ref: an object that is tracked by its address (or one of the text) -/
inductive D where
  | non | bl (b : Bool) | int (i : Int) | str (x : Str) | ty (n : String) | ref (a : Addr)
  | nd (k : Kd) (ds : List D)
abbrev D.tup (ds : List D) : D := .nd .tup ds
abbrev D.lst (ds : List D) : D := .nd .lst ds
/-- what may change: it is held by its address -/
inductive DO where
  | lst (ds : List D) | dK (kvs : List (Key × D)) | dN (kvs : List (NestedKey × D)) | ins (C : Addr) (fs : List (Str × D)) | rw (es : Array DictEntry) (ep : Nat) (kvs : List (NestedKey × D))
abbrev DHp := Addr → Option DO
def up (G : DHp) (a : Addr) (o : DO) : DHp := fun b => if b = a then some o else G b
def dl (G : DHp) (a : Addr) : DHp := fun b => if b = a then none else G b
theorem zg {G : DHp} {a : Addr} {o : DO} : up G a o a = some o := by unfold up; rw [if_pos rfl]
theorem zdy {G : DHp} {a b : Addr} {o : DO} (h : b ≠ a) : up G a o b = G b := by unfold up; rw [if_neg h]
theorem zh7 {G : DHp} {a : Addr} : dl G a a = none := by unfold dl; rw [if_pos rfl]
theorem zvs {G : DHp} {a b : Addr} (h : b ≠ a) : dl G a b = G b := by unfold dl; rw [if_neg h]
theorem zfl {G : DHp} {a : Addr} {o u : DO} : up (up G a o) a u = up G a u := by funext b; unfold up; split <;> rfl
theorem zaz {G : DHp} {a : Addr} {o : DO} (h : G a = none) : dl (up G a o) a = G := by
  funext b
  unfold dl up
  by_cases e : b = a
  · subst e; rw [if_pos rfl, h]
  · rw [if_neg e, if_neg e]
theorem zgr {G : DHp} {a b : Addr} {o u : DO} (h : a ≠ b) : up (up G a o) b u = up (up G b u) a o := by
  funext c; simp only [up]
  by_cases e : c = a
  · subst e; simp [h]
  · simp [e]
theorem zn1 {G : DHp} {a b : Addr} {o : DO} (h : a ≠ b) : dl (up G a o) b = up (dl G b) a o := by
  funext c; simp only [up, dl]
  by_cases e : c = a
  · subst e; simp [h]
  · simp [e]
theorem ztp {G : DHp} {a b : Addr} {o : DO} (h : G a = some o) (h' : G b = none) : a ≠ b := by
  intro e; subst e; rw [h] at h'; cases h'
/-- what is fixed: the written part, the world -/
structure Ml where
  K : PySem.W.Frag
  w : World
abbrev _root_.L2.Cx.ml (X : Cx) : Ml := ⟨X.K, X.w⟩
mutual
def nkD : NestedKey → D
  | .none => .non
  | .num i => .int i
  | .text x => .str x
  | .tup ks => .nd .tup (nkDs ks)
def nkDs : List NestedKey → List D
  | [] => []
  | k :: ks => nkD k :: nkDs ks
end
mutual
def D.key : D → Option NestedKey
  | .non => some .none
  | .int i => some (.num i)
  | .str x => some (.text x)
  | .nd .tup ds => (D.keys ds).map .tup
  | _ => none
def D.keys : List D → Option (List NestedKey)
  | [] => some []
  | d :: ds => match D.key d, D.keys ds with
    | some k, some ks => some (k :: ks)
    | _, _ => none
end
/-- an entry of a dict with nested keys -/
def entN (w : World) (x : NestedKey × Addr × Value) : DictEntry := ⟨x.1.hash w, .ref x.2.1, x.2.2⟩
/-- the object at a is a dict with just these entries -/
def rawO (a : Addr) (es : Array DictEntry) (ep : Nat) : HO := .ext fun h => h.DictRaw a es ep
section
variable (K : Ml) (H : Hp) (G : DHp)
mutual
def zcz : NestedKey → V → Prop
  | .none, v => v = .non
  | .num i, v => v = .int i
  | .text x, v => v = .str x
  | .tup ks, v => ∃ a vs, v = .ref a ∧ SqT K.K H a vs ∧ KeysAt ks vs
def KeysAt : List NestedKey → List V → Prop
  | [], vs => vs = []
  | k :: ks, vs => ∃ v r, vs = v :: r ∧ zcz k v ∧ KeysAt ks r
end
/-- a dict with nested keys ks and values vs at a -/
def DnAt (a : Addr) (ks : List NestedKey) (vs : List V) : Prop :=
  ∃ (xs : List (NestedKey × Addr × Value)) (es : Array DictEntry) (ep : Nat), H a = some (rawO a es ep) ∧ (a == sysModules) = false ∧ es.toList = xs.map (entN K.w) ∧ xs.map (·.1) = ks ∧ ks.Nodup ∧ ks.length ≤ sizeLine ∧
    (∀ x ∈ xs, zcz K H x.1 (.ref x.2.1) ∧ x.1.depth ≤ 8) ∧ Vals vs (xs.map (·.2.2))
/-- the same, the entries told -/
def DnE (a : Addr) (es : Array DictEntry) (ep : Nat) (ks : List NestedKey) (vs : List V) : Prop :=
  ∃ (xs : List (NestedKey × Addr × Value)), H a = some (rawO a es ep) ∧ (a == sysModules) = false ∧ es.toList = xs.map (entN K.w) ∧ xs.map (·.1) = ks ∧ ks.Nodup ∧ ks.length ≤ sizeLine ∧
    (∀ x ∈ xs, zcz K H x.1 (.ref x.2.1) ∧ x.1.depth ≤ 8) ∧ Vals vs (xs.map (·.2.2))
/-- at a stands an object of the kind with the items vs -/
def Held : Kd → Addr → List V → Prop
  | .tup, a, vs => SqT K.K H a vs
  | .lst, a, vs => G a = none ∧ H a = some (.lst vs)
  | .scr, a, vs => (∃ o, H a = some (.frz o (.lst vs))) ∨
      ∃ (o : Obj) (its : Array Value) (n : Nat), K.K.lookup a = some o ∧ o.cls = .type "list" ∧ o.dict = none ∧ o.data = .seq its n ∧ its.size ≤ sizeLine ∧ Vals vs its.toList
  | .ins C fs, a, vs => G a = none ∧ fs.length = vs.length ∧ ∃ dx, H a = some (.ins C dx (fs.zip vs))
  | .dK ks, a, vs => ks.length = vs.length ∧ ∃ o, H a = some (.frz o (.dK (ks.zip vs)))
  | .dN ks, a, vs => G a = none ∧ DnAt K H a ks vs
mutual
def VR : D → V → Prop
  | .non, v => v = .non
  | .bl b, v => v = .bl b
  | .int i, v => v = .int i
  | .str x, v => v = .str x
  | .ty n, v => v = .ty n
  | .ref a, v => v = .ref a
  | .nd k ds, v => ∃ a vs, v = .ref a ∧ Held K H G k a vs ∧ VRs ds vs
def VRs : List D → List V → Prop
  | [], vs => vs = []
  | d :: ds, vs => ∃ v r, vs = v :: r ∧ VR d v ∧ VRs ds r
end
/-- a tracked object -/
def OR (a : Addr) : DO → Prop
  | .lst ds => ∃ vs, H a = some (.lst vs) ∧ VRs K H G ds vs
  | .dK kvs => ∃ ws, H a = some (.dK ws) ∧ ws.map (·.1) = kvs.map (·.1) ∧ VRs K H G (kvs.map (·.2)) (ws.map (·.2))
  | .dN kvs => ∃ ws, DnAt K H a (kvs.map (·.1)) ws ∧ VRs K H G (kvs.map (·.2)) ws
  | .ins C fs => ∃ dx ws, H a = some (.ins C dx ws) ∧ ws.map (·.1) = fs.map (·.1) ∧ VRs K H G (fs.map (·.2)) (ws.map (·.2))
  | .rw es ep kvs => ∃ ws, DnE K H a es ep (kvs.map (·.1)) ws ∧ VRs K H G (kvs.map (·.2)) ws
def HR : Prop := ∀ a o, G a = some o → OR K H G a o
end
structure Ext (H : Hp) (G : DHp) (H' : Hp) (G' : DHp) : Prop where
  ex : ∀ a u, H a = some u → G a = none → H' a = some u ∧ G' a = none
theorem Ext.refl (H : Hp) (G : DHp) : Ext H G H G := ⟨fun _ _ h n => ⟨h, n⟩⟩
theorem Ext.trans {H G H1 G1 H2 G2} (a : Ext H G H1 G1) (b : Ext H1 G1 H2 G2) : Ext H G H2 G2 :=
  ⟨fun c u h n => let ⟨h1, n1⟩ := a.ex c u h n; b.ex c u h1 n1⟩
section
variable {K : Ml} {H H' : Hp} {G G' : DHp}
theorem OR.not_tup {a : Addr} {o : DO} (h : OR K H G a o) {vs : List V} : ¬ Rd H a (.tup vs) := by
  intro r
  cases o with
  | lst ds =>
    obtain ⟨_, e, _⟩ := h
    rcases r with r | ⟨_, r⟩ <;> rw [e] at r <;> cases r
  | dK ds =>
    obtain ⟨_, e, _⟩ := h
    rcases r with r | ⟨_, r⟩ <;> rw [e] at r <;> cases r
  | dN ds =>
    obtain ⟨_, ⟨_, _, _, e, _⟩, _⟩ := h
    rcases r with r | ⟨_, r⟩ <;> rw [e] at r <;> cases r
  | ins C fs =>
    obtain ⟨_, _, e, _⟩ := h
    rcases r with r | ⟨_, r⟩ <;> rw [e] at r <;> cases r
  | rw es ep kvs =>
    obtain ⟨_, ⟨_, e, _⟩, _⟩ := h
    rcases r with r | ⟨_, r⟩ <;> rw [e] at r <;> cases r
theorem OR.not_frz {a : Addr} {o : DO} (h : OR K H G a o) {ob : Obj} {u : HO} : H a ≠ .some (.frz ob u) := by
  intro r
  cases o with
  | lst ds =>
    obtain ⟨_, e, _⟩ := h
    rw [e] at r; cases r
  | dK ds =>
    obtain ⟨_, e, _⟩ := h
    rw [e] at r; cases r
  | dN ds =>
    obtain ⟨_, ⟨_, _, _, e, _⟩, _⟩ := h
    rw [e] at r; cases r
  | ins C fs =>
    obtain ⟨_, _, e, _⟩ := h
    rw [e] at r; cases r
  | rw es ep kvs =>
    obtain ⟨_, ⟨_, e, _⟩, _⟩ := h
    rw [e] at r; cases r
theorem OR.some {a : Addr} {o : DO} (h : OR K H G a o) : ∃ u, H a = .some u := by
  cases o with
  | lst ds => obtain ⟨_, e, _⟩ := h; exact ⟨_, e⟩
  | dK ds => obtain ⟨_, e, _⟩ := h; exact ⟨_, e⟩
  | dN ds => obtain ⟨_, ⟨_, _, _, e, _⟩, _⟩ := h; exact ⟨_, e⟩
  | ins C fs => obtain ⟨_, _, e, _⟩ := h; exact ⟨_, e⟩
  | rw es ep kvs => obtain ⟨_, ⟨_, e, _⟩, _⟩ := h; exact ⟨_, e⟩
theorem HR.tup (h : HR K H G) {a : Addr} {vs : List V} (r : Rd H a (.tup vs)) : G a = none := by
  cases e : G a with
  | none => rfl
  | some o => exact absurd r (OR.not_tup (h a o e))
theorem HR.frz (h : HR K H G) {a : Addr} {ob : Obj} {u : HO} (r : H a = some (.frz ob u)) : G a = none := by
  cases e : G a with
  | none => rfl
  | some o => exact absurd r (OR.not_frz (h a o e))
theorem HR.free (h : HR K H G) {a : Addr} (r : H a = none) : G a = none := by
  cases e : G a with
  | none => rfl
  | some o => obtain ⟨u, q⟩ := OR.some (h a o e); rw [q] at r; cases r
mutual
theorem zcz.ext (hr : HR K H G) (x : Ext H G H' G') : ∀ {k : NestedKey} {v : V}, zcz K H k v → zcz K H' k v
  | .none, _, h => by rw [zcz] at h ⊢; exact h
  | .num _, _, h => by rw [zcz] at h ⊢; exact h
  | .text _, _, h => by rw [zcz] at h ⊢; exact h
  | .tup ks, _, h => by
    rw [zcz] at h ⊢
    obtain ⟨a, vs, e, q, r⟩ := h
    refine ⟨a, vs, e, ?_, KeysAt.ext hr x r⟩
    rcases q with (h | ⟨o, h⟩) | h
    · exact .inl (.inl (x.ex _ _ h (hr.tup (.inl h))).1)
    · exact .inl (.inr ⟨o, (x.ex _ _ h (hr.frz h)).1⟩)
    · exact .inr h
theorem KeysAt.ext (hr : HR K H G) (x : Ext H G H' G') : ∀ {k : List NestedKey} {v : List V}, KeysAt K H k v → KeysAt K H' k v
  | [], _, h => by rw [KeysAt] at h ⊢; exact h
  | k :: ks, _, h => by
    rw [KeysAt] at h ⊢
    obtain ⟨v, r, e, q, t⟩ := h
    exact ⟨v, r, e, zcz.ext hr x q, KeysAt.ext hr x t⟩
end
theorem DnAt.ext (hr : HR K H G) (x : Ext H G H' G') {a : Addr} {ks : List NestedKey} {vs : List V} (h : DnAt K H a ks vs) (e : H' a = H a) : DnAt K H' a ks vs := by
  obtain ⟨xs, es, ep, h1, h2, h3, h4, h5, h6, h7, h8⟩ := h
  exact ⟨xs, es, ep, e.trans h1, h2, h3, h4, h5, h6, fun y hy => ⟨(h7 y hy).1.ext hr x, (h7 y hy).2⟩, h8⟩
theorem DnE.ext (hr : HR K H G) (x : Ext H G H' G') {a : Addr} {es : Array DictEntry} {ep : Nat} {ks : List NestedKey} {vs : List V} (h : DnE K H a es ep ks vs) (e : H' a = H a) : DnE K H' a es ep ks vs := by
  obtain ⟨xs, h1, h2, h3, h4, h5, h6, h7, h8⟩ := h
  exact ⟨xs, e.trans h1, h2, h3, h4, h5, h6, fun y hy => ⟨(h7 y hy).1.ext hr x, (h7 y hy).2⟩, h8⟩
theorem DnE.at {a : Addr} {es : Array DictEntry} {ep : Nat} {ks : List NestedKey} {vs : List V} (h : DnE K H a es ep ks vs) : DnAt K H a ks vs := by
  obtain ⟨xs, h⟩ := h
  exact ⟨xs, es, ep, h⟩
theorem DnAt.e {a : Addr} {ks : List NestedKey} {vs : List V} (h : DnAt K H a ks vs) : ∃ es ep, DnE K H a es ep ks vs := by
  obtain ⟨xs, es, ep, h⟩ := h
  exact ⟨es, ep, xs, h⟩
theorem Held.ext (hr : HR K H G) (x : Ext H G H' G') {k : Kd} {a : Addr} {vs : List V} (h : Held K H G k a vs) : Held K H' G' k a vs := by
  cases k with
  | tup =>
    rcases h with (h | ⟨o, h⟩) | h
    · exact .inl (.inl (x.ex _ _ h (hr.tup (.inl h))).1)
    · exact .inl (.inr ⟨o, (x.ex _ _ h (hr.frz h)).1⟩)
    · exact .inr h
  | lst =>
    obtain ⟨n, r⟩ := h
    obtain ⟨r', n'⟩ := x.ex _ _ r n
    exact ⟨n', r'⟩
  | scr =>
    rcases h with ⟨o, h⟩ | h
    · exact .inl ⟨o, (x.ex _ _ h (hr.frz h)).1⟩
    · exact .inr h
  | ins C fs =>
    obtain ⟨n, l, dx, r⟩ := h
    obtain ⟨r', n'⟩ := x.ex _ _ r n
    exact ⟨n', l, dx, r'⟩
  | dK ks =>
    obtain ⟨l, o, r⟩ := h
    exact ⟨l, o, (x.ex _ _ r (hr.frz r)).1⟩
  | dN ks =>
    obtain ⟨n, r⟩ := h
    obtain ⟨xs, es, ep, h1, _⟩ := id r
    obtain ⟨e, n'⟩ := x.ex _ _ h1 n
    exact ⟨n', r.ext hr x (e.trans h1.symm)⟩
mutual
theorem VR.ext (hr : HR K H G) (x : Ext H G H' G') : ∀ {d : D} {v : V}, VR K H G d v → VR K H' G' d v
  | .non, _, h => by rw [VR] at h ⊢; exact h
  | .bl _, _, h => by rw [VR] at h ⊢; exact h
  | .int _, _, h => by rw [VR] at h ⊢; exact h
  | .str _, _, h => by rw [VR] at h ⊢; exact h
  | .ty _, _, h => by rw [VR] at h ⊢; exact h
  | .ref _, _, h => by rw [VR] at h ⊢; exact h
  | .nd k ds, _, h => by
    rw [VR] at h ⊢
    obtain ⟨a, vs, e, q, r⟩ := h
    exact ⟨a, vs, e, q.ext hr x, VRs.ext hr x r⟩
theorem VRs.ext (hr : HR K H G) (x : Ext H G H' G') : ∀ {ds : List D} {vs : List V}, VRs K H G ds vs → VRs K H' G' ds vs
  | [], _, h => by rw [VRs] at h ⊢; exact h
  | d :: ds, _, h => by
    rw [VRs] at h ⊢
    obtain ⟨v, r, e, q, t⟩ := h
    exact ⟨v, r, e, VR.ext hr x q, VRs.ext hr x t⟩
end
theorem VRs.nil : VRs K H G [] [] := by rw [VRs]
theorem VRs.cons {d : D} {ds : List D} {v : V} {vs : List V} (h : VR K H G d v) (t : VRs K H G ds vs) : VRs K H G (d :: ds) (v :: vs) := by
  rw [VRs]; exact ⟨v, vs, rfl, h, t⟩
theorem VRs.uncons {d : D} {ds : List D} {vs : List V} (h : VRs K H G (d :: ds) vs) : ∃ v r, vs = v :: r ∧ VR K H G d v ∧ VRs K H G ds r := by
  rw [VRs] at h; exact h
theorem VRs.nil_of {vs : List V} (h : VRs K H G [] vs) : vs = [] := by rw [VRs] at h; exact h
theorem VRs.length : ∀ {ds : List D} {vs : List V}, VRs K H G ds vs → vs.length = ds.length
  | [], _, h => by rw [h.nil_of]; rfl
  | d :: ds, _, h => by
    obtain ⟨v, r, rfl, _, t⟩ := h.uncons
    rw [List.length_cons, List.length_cons, VRs.length t]
theorem VRs.append : ∀ {ds es : List D} {vs ws : List V}, VRs K H G ds vs → VRs K H G es ws → VRs K H G (ds ++ es) (vs ++ ws)
  | [], _, _, _, h, q => by rw [h.nil_of]; exact q
  | d :: ds, _, _, _, h, q => by
    obtain ⟨v, r, rfl, x, t⟩ := h.uncons
    exact .cons x (VRs.append t q)
theorem VRs.get : ∀ {ds : List D} {vs : List V} {i : Nat} {d : D}, VRs K H G ds vs → ds[i]? = some d → ∃ v, vs[i]? = some v ∧ VR K H G d v
  | [], _, _, _, _, e => by simp at e
  | d :: ds, _, 0, _, h, e => by
    obtain ⟨v, r, rfl, x, t⟩ := h.uncons
    simp at e; subst e
    exact ⟨v, rfl, x⟩
  | d :: ds, _, i + 1, _, h, e => by
    obtain ⟨v, r, rfl, x, t⟩ := h.uncons
    obtain ⟨u, e1, q⟩ := VRs.get (i := i) t (by simpa using e)
    exact ⟨u, by simpa using e1, q⟩
theorem VRs.getV {ds : List D} {vs : List V} {i : Nat} {v : V} (h : VRs K H G ds vs) (e : vs[i]? = some v) : ∃ d, ds[i]? = some d ∧ VR K H G d v := by
  have hl := h.length
  have hi : i < ds.length := by rw [← hl]; exact (List.getElem?_eq_some_iff.mp e).1
  obtain ⟨u, e1, q⟩ := h.get (i := i) (d := ds[i]) (by simp [hi])
  rw [e] at e1; cases e1
  exact ⟨_, by simp [hi], q⟩
theorem VRs.take : ∀ {ds : List D} {vs : List V} (n : Nat), VRs K H G ds vs → VRs K H G (ds.take n) (vs.take n)
  | _, _, 0, _ => by rw [List.take_zero, List.take_zero]; exact .nil
  | [], _, n + 1, h => by rw [h.nil_of]; exact .nil
  | d :: ds, _, n + 1, h => by
    obtain ⟨v, r, rfl, x, t⟩ := h.uncons
    exact .cons x (VRs.take n t)
theorem VRs.drop : ∀ {ds : List D} {vs : List V} (n : Nat), VRs K H G ds vs → VRs K H G (ds.drop n) (vs.drop n)
  | _, _, 0, h => by rw [List.drop_zero, List.drop_zero]; exact h
  | [], _, n + 1, h => by rw [h.nil_of]; exact .nil
  | d :: ds, _, n + 1, h => by
    obtain ⟨v, r, rfl, x, t⟩ := h.uncons
    exact VRs.drop n t
theorem VRs.set : ∀ {ds : List D} {vs : List V} {d : D} {v : V} (i : Nat), VRs K H G ds vs → VR K H G d v → VRs K H G (ds.set i d) (vs.set i v)
  | [], _, _, _, i, h, _ => by rw [h.nil_of]; exact .nil
  | d :: ds, _, _, _, 0, h, q => by
    obtain ⟨v, r, rfl, x, t⟩ := h.uncons
    exact .cons q t
  | d :: ds, _, _, _, i + 1, h, q => by
    obtain ⟨v, r, rfl, x, t⟩ := h.uncons
    exact .cons x (VRs.set i t q)
theorem VRs.dropLast {ds : List D} {vs : List V} (h : VRs K H G ds vs) : VRs K H G ds.dropLast vs.dropLast := by
  rw [List.dropLast_eq_take, List.dropLast_eq_take, h.length]
  exact h.take _
theorem VRs.reverse : ∀ {ds : List D} {vs : List V}, VRs K H G ds vs → VRs K H G ds.reverse vs.reverse
  | [], _, h => by rw [h.nil_of]; exact .nil
  | d :: ds, _, h => by
    obtain ⟨v, r, rfl, x, t⟩ := h.uncons
    rw [List.reverse_cons, List.reverse_cons]
    exact (VRs.reverse t).append (.cons x .nil)
/-- ints, texts, bools: what they stand for -/
theorem VRs.of_map {α : Type} (f : α → D) (g : α → V) (h : ∀ a, VR K H G (f a) (g a)) : ∀ xs : List α, VRs K H G (xs.map f) (xs.map g)
  | [] => .nil
  | x :: xs => .cons (h x) (VRs.of_map f g h xs)
theorem VRs.map_eq {α : Type} (f : α → D) (g : α → V) (h : ∀ a v, VR K H G (f a) v → v = g a) : ∀ {xs : List α} {vs : List V}, VRs K H G (xs.map f) vs → vs = xs.map g
  | [], _, q => q.nil_of
  | x :: xs, _, q => by
    obtain ⟨v, r, rfl, a, t⟩ := VRs.uncons q
    rw [List.map_cons, h x v a, VRs.map_eq f g h t]
theorem VRs.ints {ns : List Int} {vs : List V} (h : VRs K H G (ns.map D.int) vs) : vs = ns.map V.int :=
  h.map_eq _ _ fun a v q => by rw [VR] at q; exact q
theorem VRs.of_ints (ns : List Int) : VRs K H G (ns.map D.int) (ns.map V.int) := VRs.of_map _ _ (fun a => by rw [VR]) ns
/-- a new object that is not tracked -/
theorem Ext.laid {p : Addr} {o : HO} (hp : H p = none) : Ext H G (upd H p o) G :=
  ⟨fun a u h n => ⟨by rw [upd_ne (ne_of_none h hp)]; exact h, n⟩⟩
theorem OR.ext (hr : HR K H G) (x : Ext H G H' G') {a : Addr} {o : DO} (e : H' a = H a) (h : OR K H G a o) : OR K H' G' a o := by
  cases o with
  | lst ds => obtain ⟨vs, q, r⟩ := h; exact ⟨vs, e.trans q, r.ext hr x⟩
  | dK ds => obtain ⟨vs, q, z, r⟩ := h; exact ⟨vs, e.trans q, z, r.ext hr x⟩
  | dN ds => obtain ⟨vs, q, r⟩ := h; exact ⟨vs, q.ext hr x e, r.ext hr x⟩
  | ins C fs => obtain ⟨dx, vs, q, z, r⟩ := h; exact ⟨dx, vs, e.trans q, z, r.ext hr x⟩
  | rw es ep kvs => obtain ⟨vs, q, r⟩ := h; exact ⟨vs, q.ext hr x e, r.ext hr x⟩
theorem HR.laid (hr : HR K H G) {p : Addr} {o : HO} (hp : H p = none) : HR K (upd H p o) G := fun a u e => by
  have h := hr a u e
  obtain ⟨z, hz⟩ := h.some
  exact h.ext hr (.laid hp) (upd_ne (ne_of_none hz hp))
/-- a new tracked object -/
theorem Ext.new {p : Addr} {o : HO} {u : DO} (hp : H p = none) : Ext H G (upd H p o) (up G p u) :=
  ⟨fun a v h n => ⟨by rw [upd_ne (ne_of_none h hp)]; exact h, by rw [zdy (ne_of_none h hp)]; exact n⟩⟩
theorem HR.new (hr : HR K H G) {p : Addr} {o : HO} {u : DO} (hp : H p = none) (h : OR K (upd H p o) (up G p u) p u) : HR K (upd H p o) (up G p u) := fun a w e => by
  by_cases q : a = p
  · subst q; rw [zg] at e; cases e; exact h
  · rw [zdy q] at e
    exact (hr a w e).ext hr (.new hp) (upd_ne q)
/-- a tracked object changes -/
theorem Ext.write {p : Addr} {o : HO} {u w : DO} (hp : G p = some w) : Ext H G (upd H p o) (up G p u) :=
  ⟨fun a v h n => by
    have e : a ≠ p := fun e => by rw [e, hp] at n; cases n
    exact ⟨by rw [upd_ne e]; exact h, by rw [zdy e]; exact n⟩⟩
theorem HR.write (hr : HR K H G) {p : Addr} {o : HO} {u w : DO} (hp : G p = some w) (h : OR K (upd H p o) (up G p u) p u) : HR K (upd H p o) (up G p u) := fun a z e => by
  by_cases q : a = p
  · subst q; rw [zg] at e; cases e; exact h
  · rw [zdy q] at e
    exact (hr a z e).ext hr (.write hp) (upd_ne q)
/-- tracked no more: from now on it is read alone -/
theorem Ext.freeze {p : Addr} : Ext H G H (dl G p) :=
  ⟨fun a v h n => ⟨h, by
    by_cases e : a = p
    · rw [e, zh7]
    · rw [zvs e]; exact n⟩⟩
theorem HR.freeze (hr : HR K H G) (p : Addr) : HR K H (dl G p) := fun a z e => by
  by_cases q : a = p
  · subst q; rw [zh7] at e; cases e
  · rw [zvs q] at e
    exact (hr a z e).ext hr .freeze rfl
/-- .. a dict: locked -/
theorem Ext.freezeD {p : Addr} {o : HO} {w : DO} (hp : G p = some w) : Ext H G (upd H p o) (dl G p) :=
  ⟨fun a v h n => by
    have e : a ≠ p := fun e => by rw [e, hp] at n; cases n
    exact ⟨by rw [upd_ne e]; exact h, by rw [zvs e]; exact n⟩⟩
theorem HR.freezeD (hr : HR K H G) {p : Addr} {o : HO} {w : DO} (hp : G p = some w) : HR K (upd H p o) (dl G p) := fun a z e => by
  by_cases q : a = p
  · subst q; rw [zh7] at e; cases e
  · rw [zvs q] at e
    exact (hr a z e).ext hr (.freezeD hp) (upd_ne q)
/-- the tree of an object that is tracked no more -/
def DO.tree : DO → D
  | .lst ds => .lst ds
  | .dK kvs => .nd (.dK (kvs.map (·.1))) (kvs.map (·.2))
  | .dN kvs => .nd (.dN (kvs.map (·.1))) (kvs.map (·.2))
  | .ins C fs => .nd (.ins C (fs.map (·.1))) (fs.map (·.2))
  | .rw _ _ kvs => .nd (.dN (kvs.map (·.1))) (kvs.map (·.2))
theorem zj4 {α β : Type} : ∀ l : List (α × β), (l.map (·.1)).zip (l.map (·.2)) = l
  | [] => rfl
  | (a, b) :: l => by simp [zj4 l]
/-- what stands at p behind the freezing: a dict is locked -/
def Fz (H H' : Hp) (p : Addr) : DO → Prop
  | .dK _ => ∃ u od, H p = some u ∧ Mut (some u) ∧ H' = upd H p (.frz od u)
  | _ => H' = H
theorem HR.tree (hr : HR K H G) {p : Addr} {o : DO} (h : G p = some o) (f : Fz H H' p o) : VR K H' (dl G p) o.tree (.ref p) ∧ Ext H G H' (dl G p) ∧ HR K H' (dl G p) := by
  have q := hr p o h
  cases o with
  | lst ds =>
    obtain rfl : H' = H := f
    obtain ⟨vs, e, r⟩ := q
    refine ⟨?_, .freeze, hr.freeze p⟩
    show VR K H' (dl G p) (.nd .lst ds) _
    rw [VR]
    exact ⟨p, vs, rfl, ⟨zh7, e⟩, r.ext hr .freeze⟩
  | dK kvs =>
    obtain ⟨ws, e, z, r⟩ := q
    obtain ⟨u, od, hu, _, rfl⟩ := f
    rw [e] at hu; cases hu
    refine ⟨?_, .freezeD h, hr.freezeD h⟩
    show VR K _ (dl G p) (.nd (.dK _) _) _
    rw [VR]
    refine ⟨p, _, rfl, ⟨by rw [← z]; simp, od, ?_⟩, r.ext hr (.freezeD h)⟩
    rw [← z, zj4, upd_same]
  | dN kvs =>
    obtain rfl : H' = H := f
    obtain ⟨ws, e, r⟩ := q
    refine ⟨?_, .freeze, hr.freeze p⟩
    show VR K H' (dl G p) (.nd (.dN _) _) _
    rw [VR]
    exact ⟨p, ws, rfl, ⟨zh7, e⟩, r.ext hr .freeze⟩
  | ins C fs =>
    obtain rfl : H' = H := f
    obtain ⟨dx, ws, e, z, r⟩ := q
    refine ⟨?_, .freeze, hr.freeze p⟩
    show VR K H' (dl G p) (.nd (.ins C _) _) _
    rw [VR]
    refine ⟨p, _, rfl, ⟨zh7, by rw [← z]; simp, dx, ?_⟩, r.ext hr .freeze⟩
    rw [← z, zj4]; exact e
  | rw es ep kvs =>
    obtain rfl : H' = H := f
    obtain ⟨ws, e, r⟩ := q
    refine ⟨?_, .freeze, hr.freeze p⟩
    show VR K H' (dl G p) (.nd (.dN _) _) _
    rw [VR]
    exact ⟨p, ws, rfl, ⟨zh7, e.at⟩, r.ext hr .freeze⟩
end
abbrev DSt := List (Option D)
/-- where one set out: the objects then -/
class Bs where
  H0 : Hp
  G0 : DHp
structure SR [Bs] (K : Ml) (H : Hp) (G : DHp) (σ : L2.St) (η : DSt) : Prop where
  len : η.length = σ.length
  get : ∀ (i : Nat) (d : D), η[i]? = some (some d) → ∃ v, σ[i]? = some (some v) ∧ VR K H G d v
  base : Ext Bs.H0 Bs.G0 H G
section
variable {K : Ml} {H H' : Hp} {G G' : DHp} {σ : L2.St} {η η' : DSt}
theorem SR.ext [Bs] (hr : HR K H G) (x : Ext H G H' G') (h : SR K H G σ η) : SR K H' G' σ η :=
  ⟨h.len, fun i d e => let ⟨v, q, r⟩ := h.get i d e; ⟨v, q, r.ext hr x⟩, h.base.trans x⟩
theorem SR.set [Bs] (h : SR K H G σ η) {d : D} {v : V} (i : Nat) (r : VR K H G d v) : SR K H G (σ.set i (some v)) (η.set i (some d)) := by
  refine ⟨by rw [List.length_set, List.length_set, h.len], fun j e q => ?_, h.base⟩
  by_cases hj : i = j
  · subst hj
    by_cases hl : i < η.length
    · rw [List.getElem?_set_self hl] at q
      cases q
      exact ⟨v, by rw [List.getElem?_set_self (by rw [← h.len]; exact hl)], r⟩
    · rw [List.getElem?_eq_none (by rw [List.length_set]; omega)] at q; cases q
  · rw [List.getElem?_set_ne hj] at q
    obtain ⟨u, a, b⟩ := h.get j e q
    exact ⟨u, by rw [List.getElem?_set_ne hj]; exact a, b⟩
/-- less is known -/
def Le (η η' : DSt) : Prop := η.length = η'.length ∧ ∀ (i : Nat) (d : D), η[i]? = some (some d) → η'[i]? = some (some d)
theorem Le.refl (η : DSt) : Le η η := ⟨rfl, fun _ _ h => h⟩
theorem SR.le [Bs] (h : SR K H G σ η') (l : Le η η') : SR K H G σ η := ⟨l.1.trans h.len, fun i d e => h.get i d (l.2 i d e), h.base⟩
theorem SR.none [Bs] (h : SR K H G σ η) (i : Nat) (o : Option V) : SR K H G (σ.set i o) (η.set i Option.none) := by
  refine ⟨by rw [List.length_set, List.length_set, h.len], fun j e q => ?_, h.base⟩
  by_cases hj : i = j
  · subst hj
    by_cases hl : i < η.length
    · rw [List.getElem?_set_self hl] at q; cases q
    · rw [List.getElem?_eq_none (by rw [List.length_set]; omega)] at q; cases q
  · rw [List.getElem?_set_ne hj] at q
    obtain ⟨u, a, b⟩ := h.get j e q
    exact ⟨u, by rw [List.getElem?_set_ne hj]; exact a, b⟩
theorem Le.nil : Le [] [] := Le.refl _
theorem Le.keep {o : Option D} {η η' : DSt} (h : Le η η') : Le (o :: η) (o :: η') :=
  ⟨by rw [List.length_cons, List.length_cons, h.1], fun i d e => by
    cases i with
    | zero => simpa using e
    | succ i => simpa using h.2 i d (by simpa using e)⟩
theorem Le.drop {o : Option D} {η η' : DSt} (h : Le η η') : Le (none :: η) (o :: η') :=
  ⟨by rw [List.length_cons, List.length_cons, h.1], fun i d e => by
    cases i with
    | zero => simp at e
    | succ i => simpa using h.2 i d (by simpa using e)⟩
end
end DL
namespace DL
open PySem PySem.Spec PyProof.Rows L2
abbrev DVK := D → DHp → Prop
abbrev DTE := DSt → DHp → DVK → Prop
abbrev DTT := DSt → DHp → (Bool → DHp → Prop) → Prop
abbrev DTA := DSt → DHp → (List D → DHp → Prop) → Prop
structure zgf where
  nx : DSt → DHp → Prop
  rt : DVK
  bk : DSt → DHp → Prop := fun _ _ => False
  ct : DSt → DHp → Prop := fun _ _ => False
abbrev DTS := zgf → DSt → DHp → Prop
abbrev DTG := D → DSt → DHp → (DSt → DHp → Prop) → Prop
abbrev DTGs := List D → DSt → DHp → (DSt → DHp → Prop) → Prop
def zhp [Bs] (K : Ml) (T : DTE) : TE := fun σ H Q => ∃ η G P, SR K H G σ η ∧ HR K H G ∧ T η G P ∧ ∀ d G' v H', P d G' → Ext H G H' G' → HR K H' G' → VR K H' G' d v → Q v H'
def zlx [Bs] (K : Ml) (T : DTT) : TT := fun σ H Q => ∃ η G P, SR K H G σ η ∧ HR K H G ∧ T η G P ∧ ∀ b G' H', P b G' → Ext H G H' G' → HR K H' G' → Q b H'
def zx6 [Bs] (K : Ml) (T : DTA) : TA := fun σ H Q => ∃ η G P, SR K H G σ η ∧ HR K H G ∧ T η G P ∧ ∀ ds G' vs H', P ds G' → Ext H G H' G' → HR K H' G' → VRs K H' G' ds vs → Q vs H'
structure zfg [Bs] (K : Ml) (H : Hp) (G : DHp) (F : zgf) (E : Ends) : Prop where
  nx : ∀ η G' σ H', F.nx η G' → Ext H G H' G' → SR K H' G' σ η → HR K H' G' → E.nx σ H'
  rt : ∀ d G' v H', F.rt d G' → Ext H G H' G' → HR K H' G' → VR K H' G' d v → E.rt v H'
  bk : ∀ η G' σ H', F.bk η G' → Ext H G H' G' → SR K H' G' σ η → HR K H' G' → E.bk σ H'
  ct : ∀ η G' σ H', F.ct η G' → Ext H G H' G' → SR K H' G' σ η → HR K H' G' → E.ct σ H'
theorem zfg.ext [Bs] {K H G H1 G1 F E} (h : zfg K H G F E) (x : Ext H G H1 G1) : zfg K H1 G1 F E :=
  ⟨fun η G' σ H' p y s r => h.nx η G' σ H' p (x.trans y) s r, fun d G' v H' p y r q => h.rt d G' v H' p (x.trans y) r q, fun η G' σ H' p y s r => h.bk η G' σ H' p (x.trans y) s r, fun η G' σ H' p y s r => h.ct η G' σ H' p (x.trans y) s r⟩
def zrz [Bs] (K : Ml) (T : DTS) : TS := fun E σ H => ∃ η G F, SR K H G σ η ∧ HR K H G ∧ T F η G ∧ zfg K H G F E
/-- is: the slots that a target may change -/
def zqe [Bs] (K : Ml) (is : List Nat) (T : DTG) : TG := fun v σ H Q => ∃ d η G P, VR K H G d v ∧ SR K H G σ η ∧ HR K H G ∧ T d η G P ∧ ∀ η' G' σ' H', P η' G' → Ext H G H' G' → SR K H' G' σ' η' → HR K H' G' → wipe σ' is = wipe σ is → Q σ' H'
def zyy [Bs] (K : Ml) (is : List Nat) (T : DTGs) : TGs := fun vs σ H Q => ∃ ds η G P, VRs K H G ds vs ∧ SR K H G σ η ∧ HR K H G ∧ T ds η G P ∧ ∀ η' G' σ' H', P η' G' → Ext H G H' G' → SR K H' G' σ' η' → HR K H' G' → wipe σ' is = wipe σ is → Q σ' H'
abbrev PED [Bs] (X : Cx) (e : Expr) (T : DTE) : Prop := PE X e (zhp X.ml T)
abbrev PTD [Bs] (X : Cx) (e : Expr) (T : DTT) : Prop := PT X e (zlx X.ml T)
abbrev PWD [Bs] (X : Cx) (e : Expr) (T : DTT) : Prop := PW X e (zlx X.ml T)
abbrev PAD [Bs] (X : Cx) (es : List Expr) (T : DTA) : Prop := PA X es (zx6 X.ml T)
abbrev PSD [Bs] (X : Cx) (st : Stmt) (T : DTS) : Prop := PS X st (zrz X.ml T)
abbrev PSsD [Bs] (X : Cx) (st : List Stmt) (T : DTS) : Prop := PSs X st (zrz X.ml T)
abbrev PGD [Bs] (X : Cx) (e : Expr) (is : List Nat) (T : DTG) : Prop := PG X e (zqe X.ml is T)
abbrev PGsD [Bs] (X : Cx) (es : List Expr) (is : List Nat) (T : DTGs) : Prop := PGs X es (zyy X.ml is T)
section
variable {X : Cx}
theorem PE.impI {e : Expr} {t t' : TE} (h : PE X e t) (i : ∀ pins s σ H Q, Inv X pins σ H s → t' σ H Q → t σ H Q) : PE X e t' := ⟨fun pins s σ H Q I q => h.run pins s σ H Q I (i _ _ _ _ _ I q)⟩
theorem PT.impI {e : Expr} {t t' : TT} (h : PT X e t) (i : ∀ pins s σ H Q, Inv X pins σ H s → t' σ H Q → t σ H Q) : PT X e t' := ⟨fun pins s σ H Q I q => h.run pins s σ H Q I (i _ _ _ _ _ I q)⟩
theorem PW.impI {e : Expr} {t t' : TT} (h : PW X e t) (i : ∀ pins s σ H Q, Inv X pins σ H s → t' σ H Q → t σ H Q) : PW X e t' := ⟨fun w pins s σ H Q I q => h.run w pins s σ H Q I (i _ _ _ _ _ I q)⟩
theorem PA.impI {es : List Expr} {t t' : TA} (h : PA X es t) (i : ∀ pins s σ H Q, Inv X pins σ H s → t' σ H Q → t σ H Q) : PA X es t' := ⟨fun w pins s σ H Q I q => h.run w pins s σ H Q I (i _ _ _ _ _ I q)⟩
theorem PS.impI {e : Stmt} {t t' : TS} (h : PS X e t) (i : ∀ pins s σ H E, Inv X pins σ H s → t' E σ H → t E σ H) : PS X e t' := ⟨fun pins s σ H E I q => h.run pins s σ H E I (i _ _ _ _ _ I q)⟩
theorem PSs.impI {e : List Stmt} {t t' : TS} (h : PSs X e t) (i : ∀ pins s σ H E, Inv X pins σ H s → t' E σ H → t E σ H) : PSs X e t' := ⟨fun pins s σ H E I q => h.run pins s σ H E I (i _ _ _ _ _ I q)⟩
theorem PG.impI {e : Expr} {t t' : TG} (h : PG X e t) (i : ∀ pins s σ H v Q, Inv X pins σ H s → t' v σ H Q → t v σ H Q) : PG X e t' := ⟨fun pins s σ H v u Q I r q => h.run pins s σ H v u Q I r (i _ _ _ _ _ _ I q)⟩
theorem PGs.impI {e : List Expr} {t t' : TGs} (h : PGs X e t) (i : ∀ pins s σ H v Q, Inv X pins σ H s → t' v σ H Q → t v σ H Q) : PGs X e t' := ⟨fun pins s σ H v u Q I r q => h.run pins s σ H v u Q I r (i _ _ _ _ _ _ I q)⟩
def ze (i : Nat) : DTE := fun η G Q => match η[i]? with
  | some (some d) => Q d G
  | _ => False
theorem za [Bs] (i : Nat) {x : Str} {pos : Pos} (hN : X.N[i]? = some x := by rfl) (hv : Vis X.env.scope x := by first | exact Or.inl rfl | exact Or.inr (Or.inl rfl) | exact Or.inr (Or.inr rfl)) (hd : (x == ("__debug__" : Str)) = false := by decide)
    (hcd : (x == ("__classdict__" : Str)) = false := by decide) : PED X (.Name x pos) (ze i) :=
  PE.impI (pe_var hN hv hd hcd) fun pins s σ H Q I ⟨η, G, P, hs, hr, t, k⟩ => by
    unfold ze at t
    split at t
    · rename_i d e
      obtain ⟨v, q, r⟩ := hs.2 i d e
      exact ⟨v, q, k d G v H t (.refl _ _) hr r⟩
    · exact t.elim
def dC (d : D) : DTE := fun _ G Q => Q d G
theorem zwo [Bs] {e : Expr} {d : D} {v : V} (h : PE X e (tC v)) (r : ∀ H G, VR X.ml H G d v) : PED X e (dC d) :=
  PE.impI h fun pins s σ H Q I ⟨η, G, P, hs, hr, t, k⟩ => k d G v H t (.refl _ _) hr (r H G)
theorem zk [Bs] {i : Int} {j pos} : PED X (.Constant (.int i) j pos) (dC (.int i)) := zwo pe_int fun _ _ => by rw [VR]
theorem zfe [Bs] {i : Bool} {j pos} : PED X (.Constant (.bool i) j pos) (dC (.bl i)) := zwo pe_bl fun _ _ => by rw [VR]
theorem zux [Bs] {x : Str} {i : Int} {t : Tok} {pos : Pos} (hm : X.mg x = some (.int i t)) (hg : Gl X x := by rfl) (hd : (x == ("__debug__" : Str)) = false := by decide) : PED X (.Name x pos) (dC (.int i)) :=
  zwo (pe_glob (v := .int i) hg hm ⟨t, rfl⟩ hd) fun _ _ => by rw [VR]
def dNil : DTA := fun _ G Q => Q [] G
def zf (T : DTE) (R : DTA) : DTA := fun η G Q => T η G fun d G1 => R η G1 fun ds G2 => Q (d :: ds) G2
theorem zd [Bs] : PAD X [] dNil := PA.impI pa_nil fun pins s σ H Q I ⟨η, G, P, hs, hr, t, k⟩ => k [] G [] H t (.refl _ _) hr .nil
theorem zc [Bs] {e : Expr} {es : List Expr} {T : DTE} {R : DTA} (ha : PED X e T) (hb : PAD X es R) (hs : starEach (e :: es) X.env = (false, eval e X.env) :: starEach es X.env := by rfl) : PAD X (e :: es) (zf T R) :=
  PA.impI (pa_cons ha hb hs) fun pins s σ H Q I ⟨η, G, P, hs, hr, t, k⟩ =>
    ⟨η, G, _, hs, hr, t, fun d1 G1 v1 H1 p1 x1 r1 q1 => ⟨η, G1, _, hs.ext hr x1, r1, p1, fun ds G2 vs H2 p2 x2 r2 q2 => k (d1 :: ds) G2 (v1 :: vs) H2 p2 (x1.trans x2) r2 (.cons (q1.ext r1 x2) q2)⟩⟩
/-- a tuple -/
def dTup (T : DTA) : DTE := fun η G Q => T η G fun ds G1 => ds.length ≤ 1000 ∧ Q (.nd .tup ds) G1
theorem zs0 {n : Nat} (h : n ≤ 1000) : n ≤ sizeLine := Nat.le_trans h (by decide)
theorem zck [Bs] {es : List Expr} {x1 : Nat} {pos : Pos} {T : DTA} (h : PAD X es T) : PED X (.Tuple es x1 pos) (dTup T) :=
  PE.impI (pe_tup h) fun pins s σ H Q I ⟨η, G, P, hs, hr, t, k⟩ =>
    ⟨η, G, _, hs, hr, t, fun ds G1 vs H1 ⟨pl, p1⟩ x1 r1 q1 => ⟨by rw [q1.length]; exact zs0 pl, fun p hp => by
      have x2 : Ext H1 G1 (upd H1 p (.tup vs)) G1 := .laid hp
      refine k _ G1 (.ref p) _ p1 (x1.trans x2) (r1.laid hp) ?_
      rw [VR]
      exact ⟨p, vs, rfl, .inl (.inl upd_same), q1.ext r1 x2⟩⟩⟩
/-- a new list that is not changed later -/
def zgo (T : DTA) : DTE := fun η G Q => T η G fun ds G1 => ds.length ≤ 1000 ∧ Q (.nd .lst ds) G1
theorem zex [Bs] {es : List Expr} {pos : Pos} {T : DTA} (h : PAD X es T) : PED X (.List es pos) (zgo T) :=
  PE.impI (pe_lst h) fun pins s σ H Q I ⟨η, G, P, hs, hr, t, k⟩ =>
    ⟨η, G, _, hs, hr, t, fun ds G1 vs H1 ⟨pl, p1⟩ x1 r1 q1 => ⟨by rw [q1.length]; exact zs0 pl, fun p hp => by
      have x2 : Ext H1 G1 (upd H1 p (.lst vs)) G1 := .laid hp
      refine k _ G1 (.ref p) _ p1 (x1.trans x2) (r1.laid hp) ?_
      rw [VR]
      exact ⟨p, vs, rfl, ⟨r1.free hp, upd_same⟩, q1.ext r1 x2⟩⟩⟩
/-- a new list that is changed later -/
def zf2 (T : DTA) : DTE := fun η G Q => T η G fun ds G1 => ds.length ≤ 1000 ∧ ∀ p, G1 p = none → Q (.ref p) (up G1 p (.lst ds))
theorem zd4 [Bs] {es : List Expr} {pos : Pos} {T : DTA} (h : PAD X es T) : PED X (.List es pos) (zf2 T) :=
  PE.impI (pe_lst h) fun pins s σ H Q I ⟨η, G, P, hs, hr, t, k⟩ =>
    ⟨η, G, _, hs, hr, t, fun ds G1 vs H1 ⟨pl, p1⟩ x1 r1 q1 => ⟨by rw [q1.length]; exact zs0 pl, fun p hp => by
      have x2 : Ext H1 G1 (upd H1 p (.lst vs)) (up G1 p (.lst ds)) := .new hp
      refine k _ _ (.ref p) _ (p1 p (r1.free hp)) (x1.trans x2) (r1.new hp ⟨vs, upd_same, q1.ext r1 x2⟩) ?_
      rw [VR]⟩⟩
abbrev DR2 := D → D → DHp → DVK → Prop
def zmh (K : Ml) (r : DR2) : R2 := fun x y H Q => ∃ dx dy G P, HR K H G ∧ VR K H G dx x ∧ VR K H G dy y ∧ r dx dy G P ∧ ∀ d G' v H', P d G' → Ext H G H' G' → HR K H' G' → VR K H' G' d v → Q v H'
abbrev OpD (X : Cx) (f : Value → Value → Sem Value) (r : DR2) : Prop := OpR X f (zmh X.ml r)
def dOp (r : DR2) (Ta Tb : DTE) : DTE := fun η G Q => Ta η G fun x G1 => Tb η G1 fun y G2 => r x y G2 Q
theorem zmw [Bs] {r : DR2} {Ta Tb : DTE} {K : Ml} {σ : L2.St} {H : Hp} {Q : VK} (h : zhp K (dOp r Ta Tb) σ H Q) : tOp (zmh K r) (zhp K Ta) (zhp K Tb) σ H Q :=
  let ⟨η, G, P, hs, hr, t, k⟩ := h
  ⟨η, G, _, hs, hr, t, fun d1 G1 v1 H1 p1 x1 r1 q1 => ⟨η, G1, _, hs.ext hr x1, r1, p1, fun d2 G2 v2 H2 p2 x2 r2 q2 =>
    ⟨d1, d2, G2, P, r2, q1.ext r1 x2, q2, p2, fun d G' v H' p x r q => k d G' v H' p ((x1.trans x2).trans x) r q⟩⟩⟩
theorem zaj [Bs] {a b : Expr} {op : Operator} {pos : Pos} {r : DR2} {Ta Tb : DTE} (ho : OpD X (binaryOp op) r) (ha : PED X a Ta) (hb : PED X b Tb) : PED X (.BinOp a op b pos) (dOp r Ta Tb) :=
  PE.impI (pe_op ho ha hb) fun _ _ _ _ _ _ h => zmw h
theorem zjo [Bs] {a b : Expr} {op : CmpOp} {pos : Pos} {r : DR2} {Ta Tb : DTE} (ho : OpD X (compareOp op) r) (ha : PED X a Ta) (hb : PED X b Tb) (hm : behindInMarks op b = false) : PED X (.Compare a [op] [b] pos) (dOp r Ta Tb) :=
  PE.impI (pe_cmpR ho ha hb hm) fun _ _ _ _ _ _ h => zmw h
/-- a test by a truth value -/
def zbl (T : DTE) : DTT := fun η G Q => T η G fun d G1 => match d with
  | .bl b => Q b G1
  | _ => False
theorem zpp [Bs] {T : DTE} {K : Ml} {σ : L2.St} {H : Hp} {Q : Bool → Hp → Prop} (h : zlx K (zbl T) σ H Q) : tB (zhp K T) σ H Q := by
  obtain ⟨η, G, P, hs, hr, t, k⟩ := h
  refine ⟨η, G, _, hs, hr, t, fun d1 G1 v1 H1 p1 x1 r1 q1 => ?_⟩
  cases d1 with
  | bl b => rw [VR] at q1; exact ⟨b, q1, k b G1 H1 p1 x1 r1⟩
  | _ => exact p1.elim
theorem z6 [Bs] {a b : Expr} {op : CmpOp} {pos : Pos} {r : DR2} {Ta Tb : DTE} (ho : OpD X (compareOp op) r) (ha : PED X a Ta) (hb : PED X b Tb) (hm : behindInMarks op b = false) : PTD X (.Compare a [op] [b] pos) (zbl (dOp r Ta Tb)) :=
  PT.impI (pt_cmpR ho ha hb hm) fun _ _ σ H Q _ h => by
    have h2 := zpp h
    obtain ⟨η, G, P, hs, hr, t, k⟩ := h2
    exact zmw ⟨η, G, P, hs, hr, t, k⟩
theorem zpw [Bs] {e : Expr} {T : DTE} (h : PED X e T) (he : ∀ whole, isTrue e X.env whole = (do let v ← whole; standAt e.pos; holding [v] (truthy v)) := by intro _; rfl) : PTD X e (zbl T) :=
  PT.impI (pt_val h he) fun _ _ σ H Q _ h => zpp h
def dAnd (t u : DTT) : DTT := fun η G Q => t η G fun c G1 => if c = true then u η G1 Q else Q false G1
def dOr (t u : DTT) : DTT := fun η G Q => t η G fun c G1 => if c = true then Q true G1 else u η G1 Q
def dNot (t : DTT) : DTT := fun η G Q => t η G fun c G1 => Q (!c) G1
theorem zuo [Bs] {e : Expr} {T : DTT} (h : PWD X e T) : PTD X e T := h.pt
theorem zrm [Bs] {a : Expr} {T : DTT} {pos : Pos} (h : PTD X a T) : PWD X (.BoolOp .And [a] pos) T := pw_and1 h
theorem zti [Bs] {a : Expr} {T : DTT} {pos : Pos} (h : PTD X a T) : PWD X (.BoolOp .Or [a] pos) T := pw_or1 h
theorem ztc [Bs] {a b : Expr} {rest : List Expr} {t u : DTT} {pos : Pos} (ha : PTD X a t) (hb : PWD X (.BoolOp .And (b :: rest) pos) u) : PWD X (.BoolOp .And (a :: b :: rest) pos) (dAnd t u) :=
  PW.impI (pw_and ha hb) fun _ _ σ H Q _ ⟨η, G, P, hs, hr, t, k⟩ => ⟨η, G, _, hs, hr, t, fun c G1 H1 p1 x1 r1 => by
    by_cases hc : c = true
    · subst hc
      rw [if_pos rfl] at p1 ⊢
      exact ⟨η, G1, P, hs.ext hr x1, r1, p1, fun b G2 H2 p2 x2 r2 => k b G2 H2 p2 (x1.trans x2) r2⟩
    · rw [if_neg hc] at p1 ⊢
      exact k false G1 H1 p1 x1 r1⟩
theorem zvv [Bs] {a b : Expr} {rest : List Expr} {t u : DTT} {pos : Pos} (ha : PTD X a t) (hb : PWD X (.BoolOp .Or (b :: rest) pos) u) : PWD X (.BoolOp .Or (a :: b :: rest) pos) (dOr t u) :=
  PW.impI (pw_or ha hb) fun _ _ σ H Q _ ⟨η, G, P, hs, hr, t, k⟩ => ⟨η, G, _, hs, hr, t, fun c G1 H1 p1 x1 r1 => by
    by_cases hc : c = true
    · subst hc
      rw [if_pos rfl] at p1 ⊢
      exact k true G1 H1 p1 x1 r1
    · rw [if_neg hc] at p1 ⊢
      exact ⟨η, G1, P, hs.ext hr x1, r1, p1, fun b G2 H2 p2 x2 r2 => k b G2 H2 p2 (x1.trans x2) r2⟩⟩
/-- as values; all but the last are truth values -/
def zkx (Ta Tb : DTE) : DTE := fun η G Q => Ta η G fun d G1 => match d with
  | .bl c => if c = true then Tb η G1 Q else Q (.bl false) G1
  | _ => False
def dOrV (Ta Tb : DTE) : DTE := fun η G Q => Ta η G fun d G1 => match d with
  | .bl c => if c = true then Q (.bl true) G1 else Tb η G1 Q
  | _ => False
def zm0 (Ta : DTE) : DTE := fun η G Q => Ta η G fun d G1 => match d with
  | .bl c => Q (.bl (!c)) G1
  | _ => False
theorem ztx [Bs] {op : BoolOp} {a : Expr} {T : DTE} {pos : Pos} (h : PED X a T) : PED X (.BoolOp op [a] pos) T := pe_one h
theorem zxd [Bs] {a b : Expr} {rest : List Expr} {Ta Tb : DTE} {pos : Pos} (ha : PED X a Ta) (hb : PED X (.BoolOp .And (b :: rest) pos) Tb) : PED X (.BoolOp .And (a :: b :: rest) pos) (zkx Ta Tb) :=
  PE.impI (pe_and ha hb) fun _ _ σ H Q _ ⟨η, G, P, hs, hr, t, k⟩ => ⟨η, G, _, hs, hr, t, fun d G1 v H1 p1 x1 r1 q1 => by
    cases d with
    | bl c =>
      rw [VR] at q1
      refine ⟨c, q1, ?_⟩
      by_cases hc : c = true
      · subst hc
        have p1 : Tb η G1 P := by simpa using p1
        rw [if_pos rfl]
        exact ⟨η, G1, P, hs.ext hr x1, r1, p1, fun d G2 v H2 p2 x2 r2 q => k d G2 v H2 p2 (x1.trans x2) r2 q⟩
      · have p1 : P (.bl false) G1 := by simpa [hc] using p1
        rw [if_neg hc]
        exact k _ G1 _ H1 p1 x1 r1 (by rw [VR])
    | _ => exact p1.elim⟩
theorem zyo [Bs] {a b : Expr} {rest : List Expr} {Ta Tb : DTE} {pos : Pos} (ha : PED X a Ta) (hb : PED X (.BoolOp .Or (b :: rest) pos) Tb) : PED X (.BoolOp .Or (a :: b :: rest) pos) (dOrV Ta Tb) :=
  PE.impI (pe_or ha hb) fun _ _ σ H Q _ ⟨η, G, P, hs, hr, t, k⟩ => ⟨η, G, _, hs, hr, t, fun d G1 v H1 p1 x1 r1 q1 => by
    cases d with
    | bl c =>
      rw [VR] at q1
      refine ⟨c, q1, ?_⟩
      by_cases hc : c = true
      · subst hc
        have p1 : P (.bl true) G1 := by simpa using p1
        rw [if_pos rfl]
        exact k _ G1 _ H1 p1 x1 r1 (by rw [VR])
      · have p1 : Tb η G1 P := by simpa [hc] using p1
        rw [if_neg hc]
        exact ⟨η, G1, P, hs.ext hr x1, r1, p1, fun d G2 v H2 p2 x2 r2 q => k d G2 v H2 p2 (x1.trans x2) r2 q⟩
    | _ => exact p1.elim⟩
def dIf (t : DTT) (Ta Tb : DTE) : DTE := fun η G Q => t η G fun c G1 => if c = true then Ta η G1 Q else Tb η G1 Q
theorem zt4 [Bs] {c a b : Expr} {t : DTT} {Ta Tb : DTE} {pos : Pos} (hc : PTD X c t) (ha : PED X a Ta) (hb : PED X b Tb) : PED X (.IfExp c a b pos) (dIf t Ta Tb) :=
  PE.impI (pe_ifExp hc ha hb) fun _ _ σ H Q _ ⟨η, G, P, hs, hr, t, k⟩ => ⟨η, G, _, hs, hr, t, fun c G1 H1 p1 x1 r1 => by
    by_cases hc : c = true
    · subst hc
      rw [if_pos rfl] at p1 ⊢
      exact ⟨η, G1, P, hs.ext hr x1, r1, p1, fun d G2 v H2 p2 x2 r2 q => k d G2 v H2 p2 (x1.trans x2) r2 q⟩
    · rw [if_neg hc] at p1 ⊢
      exact ⟨η, G1, P, hs.ext hr x1, r1, p1, fun d G2 v H2 p2 x2 r2 q => k d G2 v H2 p2 (x1.trans x2) r2 q⟩⟩
def zem : DTS := fun F η G => F.nx η G
def dSeq (t u : DTS) : DTS := fun F η G => t { F with nx := u F } η G
theorem zcm [Bs] : PSsD X [] zem := PSs.impI pss_nil fun _ _ σ H E _ ⟨η, G, F, hs, hr, t, k⟩ => k.nx η G σ H t (.refl _ _) hs hr
theorem zh [Bs] {st : Stmt} {rest : List Stmt} {t u : DTS} (h1 : PSD X st t) (h2 : PSsD X rest u) : PSsD X (st :: rest) (dSeq t u) :=
  PSs.impI (pss_cons h1 h2) fun _ _ σ H E _ ⟨η, G, F, hs, hr, t, k⟩ => ⟨η, G, _, hs, hr, t,
    ⟨fun η' G' σ' H' p x s r => ⟨η', G', F, s, r, p, k.ext x⟩, k.rt, k.bk, k.ct⟩⟩
theorem zm [Bs] {st : Stmt} {t : DTS} (h1 : PSD X st t) : PSsD X [st] t := pss_one h1
def ziv : DTS := fun F η G => F.bk η G
def zmy : DTS := fun F η G => F.ct η G
def zf0 (T : DTE) : DTS := fun F η G => T η G fun _ G1 => F.nx η G1
theorem zd1 [Bs] {e : Expr} {T : DTE} {pos : Pos} (he : PED X e T) (hs : swapsWith e none pos.line X.env = pure false := by rfl) : PSD X (.Expr e pos) (zf0 T) :=
  PS.impI (ps_expr he hs) fun _ _ σ H E _ ⟨η, G, F, hs, hr, t, k⟩ => ⟨η, G, _, hs, hr, t, fun d G1 v H1 p1 x1 r1 q1 => k.nx η G1 σ H1 p1 x1 (hs.ext hr x1) r1⟩
def dRet (T : DTE) : DTS := fun F η G => T η G F.rt
theorem zbf [Bs] {e : Expr} {T : DTE} {pos : Pos} (he : PED X e T) : PSD X (.Return (some e) pos) (dRet T) :=
  PS.impI (ps_ret he) fun _ _ σ H E _ ⟨η, G, F, hs, hr, t, k⟩ => ⟨η, G, _, hs, hr, t, fun d G1 v H1 p1 x1 r1 q1 => k.rt d G1 v H1 p1 x1 r1 q1⟩
theorem Inv.fz {pins : List (Addr × Obj)} {σ : L2.St} {H : Hp} {G : DHp} {s : Shared} {p : Addr} {o : DO} (I : Inv X pins σ H s) (hr : HR X.ml H G) (h : G p = some o) : ∃ H', Fz H H' p o ∧ Inv X pins σ H' s := by
  have q := hr p o h
  cases o with
  | lst ds => exact ⟨H, rfl, I⟩
  | ins C fs => exact ⟨H, rfl, I⟩
  | rw es ep kvs => exact ⟨H, rfl, I⟩
  | dK kvs =>
    obtain ⟨ws, e, _⟩ := q
    obtain ⟨od, I'⟩ := I.lock e trivial
    exact ⟨_, ⟨_, od, e, trivial, rfl⟩, I'⟩
  | dN kvs => exact ⟨H, rfl, I⟩
/-- what is made is changed no more -/
def dFz (T : DTE) : DTE := fun η G Q => T η G fun d G1 => match d with
  | .ref a => match G1 a with
    | some o => Q o.tree (dl G1 a)
    | none => False
  | d => Q d G1
theorem zar [Bs] {e : Expr} {T : DTE} (h : PED X e T) : PED X e (dFz T) := ⟨fun pins s σ H Q I ⟨η, G, P, hs, hr, t, k⟩ => by
  refine thn (h.run pins s σ H (fun v H1 => ∃ d G1, (match d with | .ref a => (match G1 a with | some o => P o.tree (dl G1 a) | none => False) | d => P d G1) ∧ Ext H G H1 G1 ∧ HR X.ml H1 G1 ∧ VR X.ml H1 G1 d v) I ⟨η, G, _, hs, hr, t, fun d G1 v H1 p x r q => ⟨d, G1, p, x, r, q⟩⟩) fun u s1 ⟨v, H1, I1, rv, d, G1, p, x, r, q⟩ => ?_
  cases d with
  | ref a =>
    rw [VR] at q
    subst q
    cases e : G1 a with
    | none =>
      have p : (match G1 a with | some o => P o.tree (dl G1 a) | none => False) := p
      rw [e] at p; exact p.elim
    | some o =>
      have p : (match G1 a with | some o => P o.tree (dl G1 a) | none => False) := p
      rw [e] at p
      obtain ⟨H2, f, I2⟩ := Inv.fz I1 r e
      obtain ⟨t1, t2, t3⟩ := r.tree e f
      exact ⟨_, H2, I2, rv, k _ _ _ _ p (x.trans t2) t3 t1⟩
  | _ => exact ⟨v, H1, I1, rv, k _ G1 v H1 p x r q⟩⟩
def znj (T : DTE) : DTS := dRet (dFz T)
def zn6 : DTS := fun F _ G => F.rt .non G
def dIfS (c : DTT) (t u : DTS) : DTS := fun F η G => c η G fun b G1 => if b = true then t F η G1 else u F η G1
theorem zev [Bs] {c : Expr} {a b : List Stmt} {tc : DTT} {t u : DTS} {pos : Pos} (hc : PTD X c tc) (ha : PSsD X a t) (hb : PSsD X b u) : PSD X (.If c a b pos) (dIfS tc t u) :=
  PS.impI (ps_if hc ha hb) fun _ _ σ H E _ ⟨η, G, F, hs, hr, t, k⟩ => ⟨η, G, _, hs, hr, t, fun c G1 H1 p1 x1 r1 => by
    by_cases hc : c = true
    · subst hc
      rw [if_pos rfl] at p1 ⊢
      exact ⟨η, G1, F, hs.ext hr x1, r1, p1, k.ext x1⟩
    · rw [if_neg hc] at p1 ⊢
      exact ⟨η, G1, F, hs.ext hr x1, r1, p1, k.ext x1⟩⟩
def zj (i : Nat) : DTG := fun d η G Q => Q (η.set i (some d)) G
theorem zvm (σ : L2.St) (i : Nat) (o : Option V) : wipe (σ.set i o) [i] = wipe σ [i] := by
  unfold wipe wipe
  rw [List.set_set]
theorem zi [Bs] {i : Nat} {x : Str} {pos : Pos} (hN : X.N.Nodup) (hi : X.N[i]? = some x) (hx : Loc X.env.scope x) (hf : X.fn x = true ∨ X.env.scope.names.lookup x = some .local := by first | exact .inl rfl | exact .inr rfl | assumption) : PGD X (.Name x pos) [i] (zj i) :=
  PG.impI (pg_name hN hi hx hf) fun _ _ σ H v Q _ ⟨d, η, G, P, q, hs, hr, t, k⟩ => k _ G _ H t (.refl _ _) (hs.set i q) hr (zvm _ _ _)
def zfa : DTGs := fun ds η G Q => match ds with
  | [] => Q η G
  | _ => False
def za2 (t : DTG) (u : DTGs) : DTGs := fun ds η G Q => match ds with
  | d :: r => t d η G fun η' G' => u r η' G' Q
  | [] => False
theorem zdc [Bs] : PGsD X [] [] zfa := PGs.impI pgs_nil fun _ _ σ H vs Q _ ⟨ds, η, G, P, q, hs, hr, t, k⟩ => by
  cases ds with
  | nil => exact ⟨q.nil_of, k η G σ H t (.refl _ _) hs hr rfl⟩
  | cons d ds => exact t.elim
theorem zm8 (σ : L2.St) (js : List Nat) : ∀ is : List Nat, wipe σ (is ++ js) = wipe (wipe σ js) is
  | [] => rfl
  | i :: is => by
    show (wipe σ (is ++ js)).set i none = (wipe (wipe σ js) is).set i none
    rw [zm8 σ js is]
theorem zmi (σ : L2.St) (i : Nat) : ∀ js : List Nat, wipe (σ.set i none) js = (wipe σ js).set i none
  | [] => rfl
  | j :: js => by
    show (wipe (σ.set i none) js).set j none = ((wipe σ js).set j none).set i none
    rw [zmi σ i js]
    by_cases h : i = j
    · subst h; rfl
    · rw [List.set_comm _ _ h]
theorem zkw (σ : L2.St) (js : List Nat) : ∀ is : List Nat, wipe (wipe σ js) is = wipe (wipe σ is) js
  | [] => rfl
  | i :: is => by
    show (wipe (wipe σ js) is).set i none = wipe ((wipe σ is).set i none) js
    rw [zkw σ js is, zmi]
theorem zr0 {a b c : L2.St} {is js : List Nat} (h1 : wipe b is = wipe a is) (h2 : wipe c js = wipe b js) : wipe c (is ++ js) = wipe a (is ++ js) := by
  rw [zm8, zm8, h2, zkw b, h1, zkw]
theorem zw [Bs] {e : Expr} {es : List Expr} {is js : List Nat} {t : DTG} {u : DTGs} (h1 : PGD X e is t) (h2 : PGsD X es js u)
    (hs : (assignEach (e :: es) X.env).map (·.2) = assign e X.env :: (assignEach es X.env).map (·.2) := by rfl) : PGsD X (e :: es) (is ++ js) (za2 t u) :=
  PGs.impI (pgs_cons h1 h2 hs) fun _ _ σ H vs Q _ ⟨ds, η, G, P, q, hs, hr, t, k⟩ => by
    cases ds with
    | nil => exact t.elim
    | cons d ds =>
      obtain ⟨v, r, rfl, q1, q2⟩ := q.uncons
      exact ⟨v, r, rfl, d, η, G, _, q1, hs, hr, t, fun η1 G1 σ1 H1 p1 x1 s1 r1 w1 => ⟨ds, η1, G1, P, q2.ext hr x1, s1, r1, p1, fun η2 G2 σ2 H2 p2 x2 s2 r2 w2 => k η2 G2 σ2 H2 p2 (x1.trans x2) s2 r2 (zr0 w1 w2)⟩⟩
def zfd (t : DTGs) (n : Nat) : DTG := fun d η G Q => match d with
  | .nd .tup ds => ds.length = n ∧ t ds η G Q
  | _ => False
theorem zea [Bs] {es : List Expr} {is : List Nat} {k : Nat} {t : DTGs} {n : Nat} {pos : Pos} (hc : X.calm = true) (h : PGsD X es is t)
    (hn : (assignEach es X.env).length = n := by rfl) (hst : (assignEach es X.env).findIdx? (·.1) = none := by rfl) : PGD X (.Tuple es k pos) is (zfd t n) :=
  PG.impI (pg_tup hc h hn hst) fun _ _ σ H v Q _ ⟨d, η, G, P, q, hs, hr, t, k⟩ => by
    cases d with
    | nd kd ds =>
      cases kd with
      | tup =>
        rw [VR] at q
        obtain ⟨a, vs, rfl, hh, q⟩ := q
        obtain ⟨hl, t⟩ := t
        exact ⟨a, vs, rfl, hh, q.length.trans hl, ds, η, G, P, q, hs, hr, t, k⟩
      | _ => exact t.elim
    | _ => exact t.elim
def dAsg (T : DTE) (g : DTG) : DTS := fun F η G => T η G fun d G1 => g d η G1 F.nx
theorem zhz [Bs] {tg e : Expr} {T : DTE} {is : List Nat} {g : DTG} {pos : Pos} (he : PED X e T) (hg : PGD X tg is g) (hs : swapsWithSole [tg] e pos.line X.env = pure false := by rfl) (hw : swappedStores [tg] e X.env = pure none := by rfl)
    (h1 : (assignEach [tg] X.env).map (·.2) = [assign tg X.env] := by rfl) : PSD X (.Assign [tg] e pos) (dAsg T g) :=
  PS.impI (ps_asg he hg hs hw h1) fun _ _ σ H E _ ⟨η, G, F, hs, hr, t, k⟩ => ⟨η, G, _, hs, hr, t, fun d G1 v H1 p1 x1 r1 q1 =>
    ⟨d, η, G1, _, q1, hs.ext hr x1, r1, p1, fun η2 G2 σ2 H2 p2 x2 s2 r2 w2 => k.nx η2 G2 σ2 H2 p2 (x1.trans x2) s2 r2⟩⟩
theorem zcp [Bs] {i : Nat} {x : Str} {e : Expr} {T : DTE} {pos pos' : Pos} (hN : X.N.Nodup) (hi : X.N[i]? = some x) (hx : Loc X.env.scope x) (he : PED X e T) (hs : swapsWith e (some (.Name x pos')) pos.line X.env = pure false := by rfl) (hf : X.fn x = true ∨ X.env.scope.names.lookup x = some .local := by first | exact .inl rfl | exact .inr rfl | assumption) :
    PSD X (.Assign [.Name x pos'] e pos) (dAsg T (zj i)) :=
  PS.impI (ps_set hN hi hx he hs hf) fun _ _ σ H E _ ⟨η, G, F, hs, hr, t, k⟩ => ⟨η, G, _, hs, hr, t, fun d G1 v H1 p1 x1 r1 q1 =>
    k.nx _ G1 _ H1 p1 x1 ((hs.ext hr x1).set i q1) r1⟩
/-- a, b = x, y -/
def dPar (i j : Nat) (T : DTA) : DTS := fun F η G => T η G fun ds G1 => match ds with
  | [d, e] => F.nx ((η.set i (some d)).set j (some e)) G1
  | _ => False
theorem zk6 [Bs] {i j : Nat} {x y : Str} {a b : Expr} {T : DTA} {px py pt pos : Pos} {kt k2 pt2} (hc : X.calm = true) (hN : X.N.Nodup) (hi : X.N[i]? = some x) (hj : X.N[j]? = some y) (hij : i ≠ j)
    (hx : X.env.scope.names.lookup x = some .local) (hy : X.env.scope.names.lookup y = some .local) (ha : PAD X [a, b] T)
    (hw : swappedStores [.Tuple [.Name x px, .Name y py] kt pt] (.Tuple [a, b] k2 pt2) X.env = pure (some [x, y]))
    (hs : swapsWithSole [.Tuple [.Name x px, .Name y py] kt pt] (.Tuple [a, b] k2 pt2) pos.line X.env = pure false := by rfl) :
    PSD X (.Assign [.Tuple [.Name x px, .Name y py] kt pt] (.Tuple [a, b] k2 pt2) pos) (dPar i j T) :=
  PS.impI (ps_par hc hN hi hj hij hx hy ha hw hs) fun _ _ σ H E _ ⟨η, G, F, hs, hr, t, k⟩ => ⟨η, G, _, hs, hr, t, fun ds G1 vs H1 p1 x1 r1 q1 => by
    match ds, p1, q1 with
    | [d, e], p1, q1 =>
      obtain ⟨v, r, rfl, a1, q2⟩ := q1.uncons
      obtain ⟨w, r', rfl, a2, q3⟩ := q2.uncons
      rw [q3.nil_of]
      exact ⟨v, w, rfl, k.nx _ G1 _ H1 p1 x1 (((hs.ext hr x1).set i a1).set j a2) r1⟩
    | [], p1, _ => exact p1.elim
    | [_], p1, _ => exact p1.elim
    | _ :: _ :: _ :: _, p1, _ => exact p1.elim⟩
/-- the object in a slot is changed no more -/
def dFrz (i : Nat) (t : DTS) : DTS := fun F η G => match η[i]? with
  | some (some (.ref a)) => match G a with
    | some o => t F (η.set i (some o.tree)) (dl G a)
    | none => False
  | _ => False
theorem zb3 [Bs] {sts : List Stmt} {t : DTS} (i : Nat) (h : PSsD X sts t) : PSsD X sts (dFrz i t) := ⟨fun pins s σ H E I ⟨η, G, F, hs, hr, t, k⟩ => by
    unfold dFrz at t
    split at t
    · rename_i a e
      split at t
      · rename_i o ho
        obtain ⟨v, q, r⟩ := hs.2 i _ e
        rw [VR] at r
        subst r
        obtain ⟨H2, f, I2⟩ := Inv.fz I hr ho
        obtain ⟨t1, t2, t3⟩ := hr.tree ho f
        have s2 : SR X.ml H2 (dl G a) σ (η.set i (some o.tree)) := by
          have z := (hs.ext hr t2).set i t1
          have e2 : σ.set i (some (V.ref a)) = σ := by
            refine List.ext_getElem? fun j => ?_
            by_cases hj : i = j
            · subst hj
              rw [List.getElem?_set_self (List.getElem?_eq_some_iff.mp q).1, q]
            · rw [List.getElem?_set_ne hj]
          rw [e2] at z; exact z
        exact h.run pins s σ H2 E I2 ⟨_, _, F, s2, t3, t, k.ext t2⟩
      · exact t.elim
    · exact t.elim⟩
end
end DL
namespace DL
open PySem PySem.Spec PyProof.Rows L2
abbrev DTI := DSt → DHp → (List D → (DHp → Prop) → DHp → Prop) → Prop
/-- the walk J gives the items ds, as long as ok holds -/
def ItD (K : Ml) (H1 : Hp) (G1 : DHp) (J : It) (ds : List D) (ok : DHp → Prop) : Prop :=
  ∀ i H G, Ext H1 G1 H G → HR K H G → ok G →
    (∀ d, ds[i]? = some d → J.go i H ∧ ∀ x H', J.yld i H x H' → Ext H G H' G ∧ HR K H' G ∧ VR K H' G d x) ∧ (ds.length ≤ i → J.stop i H)
def zp9 [Bs] (K : Ml) (T : DTI) : TI := fun σ H R => ∃ η G P, SR K H G σ η ∧ HR K H G ∧ T η G P ∧
  ∀ ds ok G' J H', P ds ok G' → Ext H G H' G' → HR K H' G' → ItD K H' G' J ds ok → R J H'
abbrev PID [Bs] (X : Cx) (tg it : Expr) (T : DTI) : Prop := PI X tg it (zp9 X.ml T)
def always : DHp → Prop := fun _ => True
section
variable {X : Cx} {tg : Expr}
theorem Itl.itD {K : Ml} {H1 : Hp} {G1 : DHp} {a : Addr} {ds : List D} {ok : DHp → Prop} (h : ∀ H G, Ext H1 G1 H G → HR K H G → ok G → ∃ vs, SqL K.K H a vs ∧ VRs K H G ds vs) : ItD K H1 G1 (Itl K.K a) ds ok := by
  intro i H G x r o
  obtain ⟨vs, q, v⟩ := h H G x r o
  refine ⟨fun d e => ?_, fun l => ⟨vs, q, by rw [v.length]; exact l⟩⟩
  obtain ⟨u, e2, q2⟩ := v.get e
  refine ⟨⟨vs, u, q, e2⟩, fun y H' ⟨e3, e4⟩ => ?_⟩
  subst e3
  have e5 := e4 vs q
  rw [e2] at e5; cases e5
  exact ⟨.refl _ _, r, q2⟩
theorem Itt.itD {K : Ml} {H1 : Hp} {G1 : DHp} {a : Addr} {ds : List D} {ok : DHp → Prop} (h : ∀ H G, Ext H1 G1 H G → HR K H G → ok G → ∃ vs, SqT K.K H a vs ∧ VRs K H G ds vs) : ItD K H1 G1 (Itt K.K a) ds ok := by
  intro i H G x r o
  obtain ⟨vs, q, v⟩ := h H G x r o
  refine ⟨fun d e => ?_, fun l => ⟨vs, q, by rw [v.length]; exact l⟩⟩
  obtain ⟨u, e2, q2⟩ := v.get e
  refine ⟨⟨vs, u, q, e2⟩, fun y H' ⟨e3, e4⟩ => ?_⟩
  subst e3
  have e5 := e4 vs q
  rw [e2] at e5; cases e5
  exact ⟨.refl _ _, r, q2⟩
/-- a list or a tuple -/
def zx (T : DTE) : DTI := fun η G R => T η G fun d G1 => match d with
  | .nd .tup ds => R ds always G1
  | .nd .lst ds => R ds always G1
  | .nd .scr ds => R ds always G1
  | .ref a => (match G1 a with
    | some (.lst ds) => R ds (fun G => G a = some (.lst ds)) G1
    | _ => False)
  | _ => False
theorem zc6 {K : Ml} {H : Hp} {G : DHp} {k : Kd} {a : Addr} {vs : List V} (h : Held K H G k a vs) (hk : k = .lst ∨ k = .scr) : SqL K.K H a vs := by
  rcases hk with rfl | rfl
  · exact .inl (.inl h.2)
  · rcases h with ⟨o, h⟩ | h
    · exact .inl (.inr ⟨o, h⟩)
    · exact .inr h
theorem zy [Bs] {l : Expr} {T : DTE} (hl : PED X l T) : PID X tg l (zx T) := by
  refine ⟨fun pins s σ H R I ⟨η, G, P, hs, hr, t, k⟩ => ?_⟩
  refine thn (hl.run pins s σ H (fun v H1 => ∃ d G1, (match d with
    | .nd .tup ds => P ds always G1
    | .nd .lst ds => P ds always G1
    | .nd .scr ds => P ds always G1
    | .ref a => (match G1 a with
      | some (.lst ds) => P ds (fun G => G a = some (.lst ds)) G1
      | _ => False)
    | _ => False) ∧ Ext H G H1 G1 ∧ HR X.ml H1 G1 ∧ VR X.ml H1 G1 d v) I ⟨η, G, _, hs, hr, t, fun d G1 v H1 p x r q => ⟨d, G1, p, x, r, q⟩⟩) fun u s1 ⟨v, H1, I1, rv, d, G1, p, x, r, q⟩ => ?_
  have doL : ∀ (a : Addr) (ds : List D) (ok : DHp → Prop), v = .ref a → P ds ok G1 → ok G1 → (∀ H G, Ext H1 G1 H G → HR X.ml H G → ok G → ∃ vs, SqL X.K H a vs ∧ VRs X.ml H G ds vs) →
      wpAny (model X.prog X.w) X.A (pyIter u) (PIE X pins σ tg R) X.xe s1 := by
    intro a ds ok e p1 o1 hh
    subst e
    cases rv
    obtain ⟨vs, hq, _⟩ := hh H1 G1 (.refl _ _) r o1
    have hp : PI X tg (.Constant .none 0 ⟨0, 0, 0, 0⟩) (fun σ H R => R (Itl X.K a) H) → True := fun _ => trivial
    obtain ⟨its, rv2, p2, hz⟩ := I1.list hq
    refine wpAny_pyIter_list p2.isList ?_
    refine ⟨s1.heap.objs.size, [s1.heap.objs.size], _, _, H1, rfl, I1.kept (t' := s1.toks) fun b o e => Heap.get?_push_of_some _ e, turn_list a _, ⟨_, Heap.get?_push_size _ rfl, rfl, rfl⟩, fun b hb => ?_, k ds ok G1 _ H1 p1 x r (Itl.itD hh)⟩
    have e : b = s1.heap.objs.size := by simpa using hb
    subst e
    exact I1.fpOk (Nat.le_refl _) (I1.hok.fresh (Nat.le_refl _))
  cases d with
  | nd kd ds =>
    cases kd with
    | tup =>
      rw [VR] at q
      obtain ⟨a, vs, rfl, hq, vr⟩ := q
      cases rv
      obtain ⟨its, rv2, p2, hz⟩ := I1.tuple hq
      refine wpAny_pyIter_tuple (show s1.heap.IsTuple a its.toArray from p2) ?_
      refine ⟨s1.heap.objs.size, [s1.heap.objs.size], _, _, H1, rfl, I1.kept (t' := s1.toks) fun b o e => Heap.get?_push_of_some _ e, turn_tuple a _, ⟨_, Heap.get?_push_size _ rfl, rfl, rfl⟩, fun b hb => ?_,
        k ds always G1 _ H1 p x r (Itt.itD fun H' G' x' r' _ => ⟨vs, Held.ext (k := .tup) r x' hq, vr.ext r x'⟩)⟩
      have e : b = s1.heap.objs.size := by simpa using hb
      subst e
      exact I1.fpOk (Nat.le_refl _) (I1.hok.fresh (Nat.le_refl _))
    | lst =>
      rw [VR] at q
      obtain ⟨a, vs, e, hq, vr⟩ := q
      exact doL a ds always e p trivial fun H' G' x' r' _ => ⟨vs, zc6 (hq.ext r x') (.inl rfl), vr.ext r x'⟩
    | scr =>
      rw [VR] at q
      obtain ⟨a, vs, e, hq, vr⟩ := q
      exact doL a ds always e p trivial fun H' G' x' r' _ => ⟨vs, zc6 (hq.ext r x') (.inr rfl), vr.ext r x'⟩
    | _ => exact p.elim
  | ref a =>
    rw [VR] at q
    cases e : G1 a with
    | none =>
      have p : (match G1 a with | some (.lst ds) => P ds (fun G => G a = some (.lst ds)) G1 | _ => False) := p
      rw [e] at p; exact p.elim
    | some o =>
      have p : (match G1 a with | some (.lst ds) => P ds (fun G => G a = some (.lst ds)) G1 | _ => False) := p
      rw [e] at p
      cases o with
      | lst ds => exact doL a ds _ q p e fun H' G' x' r' o => let ⟨vs, z, w⟩ := r' a _ o; ⟨vs, .inl (.inl z), w⟩
      | _ => exact p.elim
  | _ => exact p.elim
/-- lo, lo + 1, .. below hi -/
def zgz (lo hi : Int) : List Int := (List.range (hi - lo).toNat).map fun (k : Nat) => lo + (k : Int)
theorem Itr.itD {K : Ml} {H1 : Hp} {G1 : DHp} {lo hi : Int} : ItD K H1 G1 (Itr lo (hi - lo).toNat) ((zgz lo hi).map D.int) always := by
  intro i H G x r o
  have hl : ((zgz lo hi).map D.int).length = (hi - lo).toNat := by simp [zgz]
  refine ⟨fun d e => ?_, fun l => by rw [hl] at l; exact l⟩
  have hi' : i < (hi - lo).toNat := by rw [← hl]; exact (List.getElem?_eq_some_iff.mp e).1
  refine ⟨hi', fun y H' ⟨e3, e4⟩ => ?_⟩
  subst e3 e4
  refine ⟨.refl _ _, r, ?_⟩
  have : d = D.int (lo + (i : Int)) := by
    simp only [zgz, List.map_map, List.getElem?_map, List.getElem?_range hi', Option.map_some, Function.comp, Option.some.injEq] at e
    exact e.symm
  subst this
  rw [VR]
def zdz (T : DTA) : DTI := fun η G R => T η G fun ds G1 => match ds with
  | [.int j] => (-(2 ^ 62) ≤ j ∧ j < 2 ^ 62) ∧ R ((zgz 0 j).map D.int) always G1
  | _ => False
theorem ze5 [Bs] {a : Expr} {T : DTA} {p pos : Pos} (hm : X.mg "range" = none) (ha : PAD X [a] T) (hg : Gl X "range" := by rfl) (hs : starEach [a] X.env = [(false, eval a X.env)] := by rfl) : PID X tg (.Call (.Name "range" p) [a] [] pos) (zdz T) := by
  refine ⟨fun pins s σ H R I ⟨η, G, P, hs', hr, t, k⟩ => (pi_range1 hg hm ha hs).run pins s σ H R I ⟨η, G, _, hs', hr, t, fun ds G1 vs H1 p x r q => ?_⟩⟩
  match ds, p, q with
  | [.int j], ⟨⟨h1, h2⟩, p⟩, q =>
    obtain ⟨v, w, rfl, q1, q2⟩ := q.uncons
    rw [VR] at q1; subst q1
    rw [q2.nil_of]
    refine ⟨j, rfl, h1, h2, ?_⟩
    have := k _ always G1 (Itr 0 (j - 0).toNat) H1 p x r Itr.itD
    simpa using this
/-- what is known may be less -/
def Wk (W : DSt → DHp → Prop) : DSt → DHp → Prop := fun η G => ∃ η0, Le η0 η ∧ W η0 G
def dFor (wi : DTI) (g : DTG) (tb : DTS) : DTS := fun F η G => wi η G fun ds ok G1 => ∃ W : Nat → DSt → DHp → Prop, W 0 η G1 ∧ (∀ i η G, W i η G → ok G) ∧
  (∀ i d η G, ds[i]? = some d → W i η G → g d η G fun η2 G2 => tb { F with nx := Wk (W (i + 1)), ct := Wk (W (i + 1)), bk := F.nx } η2 G2) ∧ ∀ η G, W ds.length η G → F.nx η G
theorem ze8 [Bs] {iter : Expr} {body : List Stmt} {wi : DTI} {is : List Nat} {g : DTG} {tb : DTS} {pos : Pos} (hp : PassesOwn (model X.prog X.w) X.A X.env X.xe) (hc : X.calm = true) (hi : PID X tg iter wi) (hg : PGD X tg is g) (hb : PSsD X body tb)
    (hs : ∀ x, foldedSetIterable iter X.env x = pure x := by intro _; rfl) : PSD X (.For tg iter body [] pos) (dFor wi g tb) :=
  PS.impI (ps_for hp hc hi hg hb hs) fun _ _ σ H E _ ⟨η, G, F, hs, hr, t, k⟩ => ⟨η, G, _, hs, hr, t, fun ds ok G1 J H1 p x r it => by
    obtain ⟨W, w0, wok, step, fin⟩ := p
    refine ⟨fun i m σ' H' => m = ds.length - i ∧ i ≤ ds.length ∧ ∃ η' G', W i η' G' ∧ Ext H1 G1 H' G' ∧ SR X.ml H' G' σ' η' ∧ HR X.ml H' G',
      ⟨ds.length, by simp, Nat.zero_le _, η, G1, w0, .refl _ _, hs.ext hr x, r⟩, ?_⟩
    rintro i m σ1 H2 ⟨rfl, hle, η1, G2, w1, x1, s1, r1⟩
    obtain ⟨a1, a2⟩ := it i H2 G2 x1 r1 (wok _ _ _ w1)
    by_cases hlt : i < ds.length
    · have e : ds[i]? = some ds[i] := by simp [hlt]
      obtain ⟨go, yl⟩ := a1 _ e
      refine .inr ⟨go, fun σ' H' => ∃ η' G', Wk (W (i + 1)) η' G' ∧ Ext H1 G1 H' G' ∧ SR X.ml H' G' σ' η' ∧ HR X.ml H' G', fun σ' H' ⟨η', G', ⟨η0, l, w⟩, x', s', r'⟩ => ⟨_, by omega, rfl, hlt, η0, G', w, x', s'.le l, r'⟩, fun y H3 hy => ?_⟩
      obtain ⟨x3, r3, v3⟩ := yl y H3 hy
      refine ⟨_, η1, G2, _, v3, s1.ext r1 x3, r3, step i _ η1 G2 e w1, fun η4 G4 σ4 H4 p4 x4 s4 r4 _ => ⟨η4, G4, _, s4, r4, p4, ?_⟩⟩
      have x5 : Ext H1 G1 H4 G4 := (x1.trans x3).trans x4
      exact ⟨fun η' G' σ' H' p y s r => ⟨η', G', p, x5.trans y, s, r⟩, fun d G' v H' p y r q => k.rt d G' v H' p ((x.trans x5).trans y) r q, fun η' G' σ' H' p y s r => k.nx η' G' σ' H' p ((x.trans x5).trans y) s r,
        fun η' G' σ' H' p y s r => ⟨η', G', p, x5.trans y, s, r⟩⟩
    · have e : i = ds.length := by omega
      subst e
      exact .inl ⟨a2 (Nat.le_refl _), k.nx η1 G2 σ1 H2 (fin _ _ w1) (x.trans x1) s1 r1⟩⟩
def ztm (c : DTT) (tb : DTS) : DTS := fun F η G => ∃ W : Nat → DSt → DHp → Prop, (∃ m, W m η G) ∧ ∀ m η G, W m η G →
  c η G fun b G1 => if b = true then tb { F with nx := fun η' G' => ∃ m', m' < m ∧ Wk (W m') η' G', ct := fun η' G' => ∃ m', m' < m ∧ Wk (W m') η' G', bk := F.nx } η G1 else F.nx η G1
theorem zoq [Bs] {c : Expr} {body : List Stmt} {tc : DTT} {tb : DTS} {pos : Pos} (hp : PassesOwn (model X.prog X.w) X.A X.env X.xe) (hc : PTD X c tc) (hb : PSsD X body tb) : PSD X (.While c body [] pos) (ztm tc tb) :=
  PS.impI (ps_while hp hc hb) fun _ _ σ H E _ ⟨η, G, F, hs, hr, t, k⟩ => by
    obtain ⟨W, ⟨m0, w0⟩, step⟩ := t
    refine ⟨fun m σ' H' => ∃ η' G', W m η' G' ∧ Ext H G H' G' ∧ SR X.ml H' G' σ' η' ∧ HR X.ml H' G', ⟨m0, η, G, w0, .refl _ _, hs, hr⟩, ?_⟩
    rintro m σ1 H1 ⟨η1, G1, w1, x1, s1, r1⟩
    refine ⟨η1, G1, _, s1, r1, step m η1 G1 w1, fun b G2 H2 p2 x2 r2 => ?_⟩
    cases b with
    | true =>
      rw [if_pos rfl] at p2 ⊢
      refine ⟨fun σ' H' => ∃ m', m' < m ∧ ∃ η' G', Wk (W m') η' G' ∧ Ext H G H' G' ∧ SR X.ml H' G' σ' η' ∧ HR X.ml H' G', fun σ' H' ⟨m', hm, η', G', ⟨η0, l, w⟩, x', s', r'⟩ => ⟨m', hm, η0, G', w, x', s'.le l, r'⟩, ?_⟩
      refine ⟨η1, G2, _, s1.ext r1 x2, r2, p2, ?_⟩
      have x3 := x1.trans x2
      exact ⟨fun η' G' σ' H' ⟨m', hm, p⟩ y s r => ⟨m', hm, η', G', p, x3.trans y, s, r⟩, fun d G' v H' p y r q => k.rt d G' v H' p (x3.trans y) r q, fun η' G' σ' H' p y s r => k.nx η' G' σ' H' p (x3.trans y) s r,
        fun η' G' σ' H' ⟨m', hm, p⟩ y s r => ⟨m', hm, η', G', p, x3.trans y, s, r⟩⟩
    | false =>
      rw [if_neg Bool.false_ne_true] at p2 ⊢
      exact k.nx η1 G2 σ1 H2 p2 (x1.trans x2) (s1.ext r1 x2) r2
end
def zc3 (η : DSt) : List Nat → DSt
  | [] => η
  | v :: vs => (zc3 η vs).set v none
section
variable {X : Cx} {tg : Expr}
theorem SR.wipe [Bs] {K : Ml} {H : Hp} {G : DHp} {σ : L2.St} {η : DSt} (h : SR K H G σ η) : ∀ vs : List Nat, SR K H G (wipe σ vs) (zc3 η vs)
  | [] => h
  | v :: vs => SR.none (SR.wipe h vs) v Option.none
/-- a clause's tests -/
abbrev PTsD [Bs] (X : Cx) (ifs : List Expr) (T : DTT) : Prop := PTs X ifs (zlx X.ml T)
def dYes : DTT := fun _ G Q => Q true G
theorem za4 [Bs] : PTsD X [] dYes := ⟨fun pins s σ H Q I ⟨η, G, P, hs, hr, t, k⟩ => pts_nil.run pins s σ H Q I (k true G H t (.refl _ _) hr)⟩
theorem zcf [Bs] {c : Expr} {T : DTT} (h : PTD X c T) : PTsD X [c] T := pts_one h
/-- [elt for tg in iter if ..] -/
def dLc (wi : DTI) (g : DTG) (tt : DTT) (te : DTE) (own : List Nat) : DTE := fun η G Q => wi η G fun ds ok G1 => ∀ p, G1 p = none → ∃ W : Nat → List D → DHp → Prop, W 0 [] (up G1 p (.lst [])) ∧ (∀ i acc G, W i acc G → ok G ∧ G p = some (.lst acc)) ∧
  (∀ i d acc G, ds[i]? = some d → W i acc G → g d (zc3 η own) G fun η2 G2 => tt η2 G2 fun b G3 => if b = true then te η2 G3 fun y G4 => acc.length < sizeLine ∧ G4 p = some (.lst acc) ∧ W (i + 1) (acc ++ [y]) (up G4 p (.lst (acc ++ [y]))) else W (i + 1) acc G3) ∧
  ∀ acc G, W ds.length acc G → Q (.ref p) G
theorem zhl {a b : L2.St} {is vs : List Nat} (h : wipe b is = wipe a is) (hl : ∀ i ∈ is, i ∈ vs) (ha : a.length = b.length) : wipe b vs = wipe a vs := by
  have get : ∀ (σ : L2.St) (vs : List Nat) (j : Nat), (wipe σ vs)[j]? = if j ∈ vs then (if j < σ.length then some none else none) else σ[j]? := by
    intro σ vs j
    induction vs with
    | nil => simp [wipe]
    | cons v vs ih =>
      unfold wipe
      by_cases hj : v = j
      · subst hj
        by_cases hlt : v < σ.length
        · rw [List.getElem?_set_self (by rw [wipe_length]; exact hlt)]
          simp [hlt]
        · rw [List.getElem?_eq_none (by rw [List.length_set, wipe_length]; omega)]
          simp [hlt]
      · rw [List.getElem?_set_ne hj, ih]
        have : j ≠ v := Ne.symm hj
        simp [this]
  refine List.ext_getElem? fun j => ?_
  rw [get, get]
  by_cases hj : j ∈ vs
  · simp [hj, ha]
  · have hi : j ∉ is := fun q => hj (hl j q)
    have e := congrArg (fun l => l[j]?) h
    simp only [get, hi, if_false] at e
    simp [hj, e]
theorem zgb (σ : L2.St) (own : List Nat) : wipe (wipe σ own) own = wipe σ own := by
  refine List.ext_getElem? fun j => ?_
  by_cases hj : j ∈ own
  · have h1 : ∀ (vs : List Nat) (s : L2.St), j ∈ vs → (wipe s vs)[j]? = if j < s.length then some none else none := by
      intro vs s hm
      induction vs with
      | nil => cases hm
      | cons v vs ih =>
        unfold wipe
        by_cases e : v = j
        · subst e
          by_cases hlt : v < s.length
          · rw [List.getElem?_set_self (by rw [wipe_length]; exact hlt), if_pos hlt]
          · rw [List.getElem?_eq_none (by rw [List.length_set, wipe_length]; omega), if_neg hlt]
        · rw [List.getElem?_set_ne e, ih ((List.mem_cons.mp hm).resolve_left fun q => e q.symm)]
    rw [h1 own _ hj, h1 own _ hj, wipe_length]
  · rw [wipe_out hj]
theorem zpy [Bs] {K : Ml} {wi : DTI} {g : DTG} {tt : DTT} {te : DTE} {own is : List Nat} {σ : L2.St} {H : Hp} {Q : VK} (hsub : ∀ i ∈ is, i ∈ own) (h : zhp K (dLc wi g tt te own) σ H Q) :
    tLc (zp9 K wi) (zqe K is g) (zlx K tt) (zhp K te) own σ H Q := by
  obtain ⟨η, G, P, hs, hr, t, k⟩ := h
  refine ⟨η, G, _, hs, hr, t, fun ds ok G1 J H1 pp x r it => ?_⟩
  intro D hD
  have gD : G1 D = none := r.free hD
  obtain ⟨W, w0, wok, step, fin⟩ := pp D gD
  have xD : Ext H1 G1 (upd H1 D (.lst [])) (up G1 D (.lst [])) := .new hD
  have rD : HR K (upd H1 D (.lst [])) (up G1 D (.lst [])) := r.new hD ⟨[], upd_same, .nil⟩
  refine ⟨fun i m H' => m = ds.length - i ∧ i ≤ ds.length ∧ ∃ acc G', W i acc G' ∧ Ext H1 G1 H' G' ∧ HR K H' G',
    ⟨ds.length, by simp, Nat.zero_le _, [], _, w0, xD, rD⟩, ?_⟩
  rintro i m H2 ⟨rfl, hle, acc, G2, w1, x1, r1⟩
  obtain ⟨a1, a2⟩ := it i H2 G2 x1 r1 (wok _ _ _ w1).1
  by_cases hlt : i < ds.length
  · have e : ds[i]? = some ds[i] := by simp [hlt]
    obtain ⟨go, yl⟩ := a1 _ e
    refine .inr ⟨go, fun H' => ∃ acc G', W (i + 1) acc G' ∧ Ext H1 G1 H' G' ∧ HR K H' G', fun H' ⟨acc', G', z⟩ => ⟨_, by omega, rfl, hlt, acc', G', z⟩, fun y H3 hy => ?_⟩
    obtain ⟨x3, r3, v3⟩ := yl y H3 hy
    have s3 : SR K H3 G2 (wipe σ own) (zc3 η own) := ((hs.ext hr x).ext r (x1.trans x3)).wipe own
    refine ⟨_, zc3 η own, G2, _, v3, s3, r3, step i _ acc G2 e w1, fun η4 G4 σ4 H4 p4 x4 s4 r4 wp => ⟨?_, η4, G4, _, s4, r4, p4, fun b G5 H5 p5 x5 r5 => ?_⟩⟩
    · have hlen : (wipe σ own).length = σ4.length := by
        have := congrArg List.length wp
        rw [wipe_length, wipe_length] at this
        exact this.symm
      rw [zhl (vs := own) wp hsub hlen]
      exact zgb _ _
    · by_cases hb : b = true
      · subst hb
        rw [if_pos rfl] at p5 ⊢
        refine ⟨η4, G5, _, s4.ext r4 x5, r5, p5, fun dy G6 vy H6 ⟨hz, hp6, w6⟩ x6 r6 q6 => ?_⟩
        obtain ⟨vs, hv6, ha⟩ := r6 D _ hp6
        have xx : Ext H2 G2 H6 G6 := ((x3.trans x4).trans x5).trans x6
        have xw : Ext H6 G6 (upd H6 D (.lst (vs ++ [vy]))) (up G6 D (.lst (acc ++ [dy]))) := .write hp6
        refine ⟨vs, hv6, by rw [ha.length]; exact hz, acc ++ [dy], _, w6, (x1.trans xx).trans xw, r6.write hp6 ⟨_, upd_same, ?_⟩⟩
        exact (ha.ext r6 xw).append (.cons (q6.ext r6 xw) .nil)
      · rw [if_neg hb] at p5 ⊢
        exact ⟨acc, G5, p5, x1.trans ((x3.trans x4).trans x5), r5⟩
  · have e : i = ds.length := by omega
    subst e
    exact .inl ⟨a2 (Nat.le_refl _), k (.ref D) G2 (.ref D) H2 (fin _ _ w1) (x.trans x1) r1 (by rw [VR])⟩
theorem zc7 [Bs] {elt tg iter : Expr} {ifs : List Expr} {scope : Scope} {own : List (Str × Nat)} {is : List Nat} {pos : Pos} {wi : DTI} {g : DTG} {tt : DTT} {te : DTE} (hc : X.calm = true) (hN : X.N.Nodup) (hi : PID X tg iter wi) (ok : BlkOk X.N X.env.scope scope own)
    (hg : ∀ (s : Shared) (H : Hp) (C : Addr) (cl : List (Str × Addr)) (fp : List Addr), PGD (X.blk s H scope (compEnvC scope cl C X.env) fp) tg is g) (ht : ∀ (s : Shared) (H : Hp) (C : Addr) (cl : List (Str × Addr)) (fp : List Addr), PTsD (X.blk s H scope (compEnvC scope cl C X.env) fp) ifs tt)
    (he : ∀ (s : Shared) (H : Hp) (C : Addr) (cl : List (Str × Addr)) (fp : List Addr), PED (X.blk s H scope (compEnvC scope cl C X.env) fp) elt te) (hsub : ∀ i ∈ is, i ∈ own.map (·.2) := by decide) (hs : ∀ x, foldedSetIterable iter X.env x = pure x := by intro _; rfl) :
    PED X (.ListComp elt [⟨tg, iter, ifs, 0⟩] scope pos) (dLc wi g tt te (own.map (·.2))) :=
  PE.impI (pe_lc hc hN hi ok hg ht he hs) fun _ _ _ _ _ _ h => zpy hsub h
/-- name = [..] on one line -/
theorem zg4 [Bs] {i : Nat} {y : Str} {py : Pos} {elt tg iter : Expr} {ifs : List Expr} {scope : Scope} {own : List (Str × Nat)} {is : List Nat} {pos spos : Pos} {wi : DTI} {g : DTG} {tt : DTT} {te : DTE} (hc : X.calm = true) (hN : X.N.Nodup) (hy : X.N[i]? = some y) (hyl : X.env.scope.names.lookup y = some .local)
    (hsw : swapsWith (.ListComp elt [⟨tg, iter, ifs, 0⟩] scope pos) (some (.Name y py)) spos.line X.env = pure true) (hi : PID X tg iter wi) (ok : BlkOk X.N X.env.scope scope own)
    (hg : ∀ (s : Shared) (H : Hp) (C : Addr) (cl : List (Str × Addr)) (fp : List Addr), PGD (X.blk s H scope (compEnvC scope cl C X.env) fp) tg is g) (ht : ∀ (s : Shared) (H : Hp) (C : Addr) (cl : List (Str × Addr)) (fp : List Addr), PTsD (X.blk s H scope (compEnvC scope cl C X.env) fp) ifs tt)
    (he : ∀ (s : Shared) (H : Hp) (C : Addr) (cl : List (Str × Addr)) (fp : List Addr), PED (X.blk s H scope (compEnvC scope cl C X.env) fp) elt te) (hsub : ∀ i ∈ is, i ∈ own.map (·.2) := by decide) (hs : ∀ x, foldedSetIterable iter X.env x = pure x := by intro _; rfl) :
    PSD X (.Assign [.Name y py] (.ListComp elt [⟨tg, iter, ifs, 0⟩] scope pos) spos) (dAsg (dLc wi g tt te (own.map (·.2))) (zj i)) :=
  PS.impI (ps_setLc hc hN hy hyl hsw hi ok hg ht he hs) fun _ _ σ H E _ ⟨η, G, F, hs, hr, t, k⟩ =>
    show tLc _ _ _ _ _ σ H _ from zpy hsub ⟨η, G, _, hs, hr, t, fun d G1 v H1 p1 x1 r1 q1 => k.nx _ G1 _ H1 p1 x1 ((hs.ext hr x1).set i q1) r1⟩
end
end DL
namespace DL
open PySem PySem.Spec PyProof.Rows L2
mutual
def py : D → PyData
  | .non => .none
  | .bl b => .bool b
  | .int i => .int i
  | .str x => .str x
  | .ty _ => .none
  | .ref _ => .none
  | .nd .tup ds => .tuple (pys ds)
  | .nd .lst ds => .list (pys ds)
  | .nd .scr ds => .list (pys ds)
  | .nd _ _ => .none
def pys : List D → List PyData
  | [] => []
  | d :: ds => py d :: pys ds
end
mutual
def zb2 : D → Bool
  | .non => true
  | .bl _ => true
  | .int _ => true
  | .str _ => true
  | .nd .tup ds => plainDs ds
  | .nd .lst ds => plainDs ds
  | .nd .scr ds => plainDs ds
  | _ => false
def plainDs : List D → Bool
  | [] => true
  | d :: ds => zb2 d && plainDs ds
end
section
variable {K : Ml} {H : Hp} {G : DHp}
mutual
theorem VR.dp : ∀ {d : D} {v : V}, VR K H G d v → zb2 d = true → Dp K.K H v (py d)
  | .non, _, h, _ => by rw [VR] at h; subst h; exact .non
  | .bl _, _, h, _ => by rw [VR] at h; subst h; exact .bl _
  | .int _, _, h, _ => by rw [VR] at h; subst h; exact .int _
  | .str _, _, h, _ => by rw [VR] at h; subst h; exact .str _
  | .ty _, _, _, p => by simp [zb2] at p
  | .ref _, _, _, p => by simp [zb2] at p
  | .nd .tup ds, _, h, p => by
    rw [VR] at h
    obtain ⟨a, vs, rfl, q, r⟩ := h
    rw [py]
    exact .tup q (VRs.dp r (by rw [zb2] at p; exact p))
  | .nd .lst ds, _, h, p => by
    rw [VR] at h
    obtain ⟨a, vs, rfl, q, r⟩ := h
    rw [py]
    exact .lst (zc6 q (.inl rfl)) (VRs.dp r (by rw [zb2] at p; exact p))
  | .nd .scr ds, _, h, p => by
    rw [VR] at h
    obtain ⟨a, vs, rfl, q, r⟩ := h
    rw [py]
    exact .lst (zc6 q (.inr rfl)) (VRs.dp r (by rw [zb2] at p; exact p))
  | .nd (.ins _ _) ds, _, _, p => by simp [zb2] at p
  | .nd (.dK _) ds, _, _, p => by simp [zb2] at p
  | .nd (.dN _) ds, _, _, p => by simp [zb2] at p
theorem VRs.dp : ∀ {ds : List D} {vs : List V}, VRs K H G ds vs → plainDs ds = true → DpAll K.K H vs (pys ds)
  | [], _, h, _ => by rw [h.nil_of, pys]; exact .nil
  | d :: ds, _, h, p => by
    obtain ⟨v, r, rfl, q, t⟩ := h.uncons
    rw [plainDs, Bool.and_eq_true] at p
    rw [pys]
    exact .cons (VR.dp q p.1) (VRs.dp t p.2)
end
/-- what is read at a value: a tracked list by its items -/
def der (d : D) (G : DHp) : D := match d with
  | .ref a => (match G a with
    | some (.lst ds) => .nd .lst ds
    | _ => .ref a)
  | d => d
theorem zk2 {a : Addr} {G : DHp} : der (.ref a) G = (match G a with | some (.lst ds) => .nd .lst ds | _ => .ref a) := rfl
theorem zqr {a : Addr} {G : DHp} {ds : List D} (h : G a = some (.lst ds)) : der (.ref a) G = .nd .lst ds := by rw [zk2, h]
theorem zju (hr : HR K H G) {d : D} {v : V} (h : VR K H G d v) (p : zb2 (der d G) = true) : Dp K.K H v (py (der d G)) := by
  cases d with
  | ref a =>
    rw [VR] at h
    subst h
    rw [zk2] at p ⊢
    cases e : G a with
    | none => rw [e] at p; simp [zb2] at p
    | some o =>
      cases o with
      | lst ds =>
        rw [e] at p
        simp only at p ⊢
        obtain ⟨vs, q, r⟩ := hr a _ e
        rw [py]
        exact .lst (.inl (.inl q)) (r.dp (by rw [zb2] at p; exact p))
      | _ => rw [e] at p; simp [zb2] at p
  | _ => exact h.dp p
/-- a list, whatever way it is held -/
theorem zh9 (hr : HR K H G) {d : D} {v : V} {ds : List D} (h : VR K H G d v) (e : der d G = .nd .lst ds) : ∃ a vs, v = .ref a ∧ H a = some (.lst vs) ∧ VRs K H G ds vs := by
  cases d with
  | ref a =>
    rw [VR] at h
    subst h
    rw [zk2] at e
    cases g : G a with
    | none => rw [g] at e; cases e
    | some o =>
      cases o with
      | lst ds' =>
        rw [g] at e
        simp only [D.nd.injEq, true_and] at e
        subst e
        obtain ⟨vs, q, r⟩ := hr a _ g
        exact ⟨a, vs, rfl, q, r⟩
      | _ => rw [g] at e; cases e
  | nd k ds' =>
    have e : D.nd k ds' = .nd .lst ds := e
    cases e
    rw [VR] at h
    obtain ⟨a, vs, rfl, q, r⟩ := h
    exact ⟨a, vs, rfl, q.2, r⟩
  | _ => cases e
end
section
variable {X : Cx}
/-- an operator by cases -/
theorem zin {f : Value → Value → Sem Value} {r : DR2} (h : ∀ pins s σ H G x y v u dx dy P, Inv X pins σ H s → RelV x v → RelV y u → HR X.ml H G → VR X.ml H G dx x → VR X.ml H G dy y → r dx dy G P →
    wpAny (model X.prog X.w) X.A (f v u) (fun w s' => ∃ z d H' G', Inv X pins σ H' s' ∧ RelV z w ∧ P d G' ∧ Ext H G H' G' ∧ HR X.ml H' G' ∧ VR X.ml H' G' d z) X.xe s) : OpD X f r := by
  intro pins s σ H x y v u Q I rx ry ⟨dx, dy, G, P, hr, q1, q2, t, k⟩
  exact thn (h pins s σ H G x y v u dx dy P I rx ry hr q1 q2 t) fun w s' ⟨z, d, H', G', I', rz, p, x', r', q'⟩ => ⟨z, H', I', rz, k d G' z H' p x' r' q'⟩
/-- the end where nothing is made -/
theorem zay {pins : List (Addr × Obj)} {σ : L2.St} {H : Hp} {G : DHp} {s : Shared} {P : D → DHp → Prop} {d : D} {z : V} {w : Value} (I : Inv X pins σ H s) (rz : RelV z w) (hr : HR X.ml H G) (q : VR X.ml H G d z) (p : P d G) :
    ∃ z d H' G', Inv X pins σ H' s ∧ RelV z w ∧ P d G' ∧ Ext H G H' G' ∧ HR X.ml H' G' ∧ VR X.ml H' G' d z := ⟨z, d, H, G, I, rz, p, .refl _ _, hr, q⟩
def i2 (C : Int → Int → Prop) (g : Int → Int → D) : DR2 := fun x y G Q => match x, y with
  | .int i, .int j => C i j ∧ Q (g i j) G
  | _, _ => False
theorem zpi {f : Value → Value → Sem Value} {C : Int → Int → Prop} {g : Int → Int → D} {gv : Int → Int → V} (hg : ∀ i j H G, VR X.ml H G (g i j) (gv i j)) (h : OpR X f (rI C gv)) : OpD X f (i2 C g) := zin fun pins s σ H G x y v u dx dy P I rx ry hr q1 q2 t => by
  unfold i2 at t
  split at t
  · rename_i i j
    rw [VR] at q1 q2
    subst q1 q2
    refine thn (h pins s σ H _ _ v u (fun z H' => z = gv i j ∧ H' = H) I rx ry ⟨i, j, rfl, rfl, t.1, rfl, rfl⟩) fun w s' ⟨z, H', I', rz, e1, e2⟩ => ?_
    subst e1 e2
    exact zay I' rz hr (hg i j H' G) t.2
  · exact t.elim
theorem zyp {f : Value → Value → Sem Value} {g : Int → Int → V} (h : OpR X f (rI0 g)) : OpR X f (rI (fun _ _ => True) g) := fun pins s σ H x y v u Q I rx ry ⟨i, j, e1, e2, _, q⟩ => h pins s σ H x y v u Q I rx ry ⟨i, j, e1, e2, q⟩
theorem zpv : OpD X (binaryOp .Sub) (i2 (fun _ _ => True) fun i j => .int (i - j)) := zpi (fun _ _ _ _ => by rw [VR]) (zyp op_sub)
theorem zmk : OpD X (binaryOp .Mult) (i2 CMul fun i j => .int (i * j)) := zpi (fun _ _ _ _ => by rw [VR]) op_mul
/-- a divisor below 2 ^ 30 -/
theorem zkz : OpD X (binaryOp .FloorDiv) (i2 CDiv fun i j => .int (i / j)) := zpi (fun _ _ _ _ => by rw [VR]) op_fdiv
theorem zk0 : OpD X (binaryOp .Mod) (i2 (fun _ j => 0 < j) fun i j => .int (i % j)) := zpi (fun _ _ _ _ => by rw [VR]) op_mod
theorem zx1 : OpD X (binaryOp .Pow) (i2 CPow fun i j => .int (i ^ j.toNat)) := zpi (fun _ _ _ _ => by rw [VR]) op_pow
/-- + of ints, texts, tuples, lists (a new list that is changed no more) -/
def dAdd : DR2 := fun x y G Q => match der x G, der y G with
  | .int i, .int j => Q (.int (i + j)) G
  | .str a, .str b => a.length + b.length ≤ sizeLine ∧ Q (.str (a ++ b)) G
  | .nd .tup xs, .nd .tup ys => xs.length + ys.length ≤ sizeLine ∧ Q (.nd .tup (xs ++ ys)) G
  | .nd .lst xs, .nd .lst ys => xs.length + ys.length ≤ sizeLine ∧ Q (.nd .lst (xs ++ ys)) G
  | _, _ => False
theorem zhd {G : DHp} {x d : D} (e : der x G = d) (hl : ∀ ds, d ≠ .nd .lst ds) : x = d := by
  cases x with
  | ref a =>
    rw [zk2] at e
    cases g : G a with
    | none => rw [g] at e; exact e
    | some o =>
      cases o with
      | lst ds => rw [g] at e; exact absurd e.symm (hl ds)
      | _ => rw [g] at e; exact e
  | _ => exact e
theorem zdg : OpD X (binaryOp .Add) dAdd := zin fun pins s σ H G x y v u dx dy P I rx ry hr q1 q2 t => by
  unfold dAdd at t
  split at t
  · rename_i i j e1 e2
    have e1 := zhd e1 (fun _ h => nomatch h)
    have e2 := zhd e2 (fun _ h => nomatch h)
    subst e1 e2
    rw [VR] at q1 q2
    subst q1 q2
    obtain ⟨t1, rfl⟩ := rx
    obtain ⟨t2, rfl⟩ := ry
    exact add_int (zay (z := .int (i + j)) (I.tok _) ⟨_, rfl⟩ hr (by rw [VR]) t)
  · rename_i i j e1 e2
    have e1 := zhd e1 (fun _ h => nomatch h)
    have e2 := zhd e2 (fun _ h => nomatch h)
    subst e1 e2
    rw [VR] at q1 q2
    subst q1 q2
    exact thn (op_add_str pins s σ H _ _ v u (fun z H' => z = .str (i ++ j) ∧ H' = H) I rx ry ⟨i, j, rfl, rfl, t.1, rfl, rfl⟩) fun w s' ⟨z, H', I', rz, e1, e2⟩ => by
      subst e1 e2
      exact zay I' rz hr (by rw [VR]) t.2
  · rename_i xs ys e1 e2
    have e1 := zhd e1 (fun _ h => nomatch h)
    have e2 := zhd e2 (fun _ h => nomatch h)
    subst e1 e2
    rw [VR] at q1 q2
    obtain ⟨a, vs, rfl, h1, r1⟩ := q1
    obtain ⟨b, ws, rfl, h2, r2⟩ := q2
    refine thn (op_catA pins s σ H _ _ v u (fun z H' => Ext H G H' G ∧ HR X.ml H' G ∧ VR X.ml H' G (.nd .tup (xs ++ ys)) z) I rx ry ⟨a, b, vs, ws, rfl, rfl, h1, h2, by rw [r1.length, r2.length]; exact t.1, fun e => ?_, fun _ e => ?_, fun _ _ p hp => ?_⟩) fun w s' ⟨z, H', I', rz, x', r', q'⟩ => ⟨z, _, H', G, I', rz, t.2, x', r', q'⟩
    · have : xs = [] := by have := r1.length; rw [e] at this; exact List.length_eq_zero_iff.mp this.symm
      subst this
      refine ⟨.refl _ _, hr, ?_⟩
      rw [VR]
      exact ⟨b, ws, rfl, h2, r2⟩
    · have : ys = [] := by have := r2.length; rw [e] at this; exact List.length_eq_zero_iff.mp this.symm
      subst this
      refine ⟨.refl _ _, hr, ?_⟩
      rw [VR, List.append_nil]
      exact ⟨a, vs, rfl, h1, r1⟩
    · have x2 : Ext H G (upd H p (.tup (vs ++ ws))) G := .laid hp
      refine ⟨x2, hr.laid hp, ?_⟩
      rw [VR]
      exact ⟨p, _, rfl, .inl (.inl upd_same), (r1.append r2).ext hr x2⟩
  · rename_i xs ys e1 e2
    obtain ⟨a, vs, rfl, h1, r1⟩ := zh9 hr q1 e1
    obtain ⟨b, ws, rfl, h2, r2⟩ := zh9 hr q2 e2
    refine thn (op_cat pins s σ H _ _ v u (fun z H' => Ext H G H' G ∧ HR X.ml H' G ∧ VR X.ml H' G (.nd .lst (xs ++ ys)) z) I rx ry ⟨a, b, vs, ws, rfl, rfl, h1, h2, by rw [r1.length, r2.length]; exact t.1, fun p hp => ?_⟩) fun w s' ⟨z, H', I', rz, x', r', q'⟩ => ⟨z, _, H', G, I', rz, t.2, x', r', q'⟩
    have x2 : Ext H G (upd H p (.lst (vs ++ ws))) G := .laid hp
    refine ⟨x2, hr.laid hp, ?_⟩
    rw [VR]
    exact ⟨p, _, rfl, ⟨hr.free hp, upd_same⟩, (r1.append r2).ext hr x2⟩
  · exact t.elim
/-- equality of plain data -/
def dEq : DR2 := fun x y G Q => (zb2 (der x G) = true ∧ zb2 (der y G) = true ∧ SeqAt.shaped (py (der x G)) = true ∧ SeqAt.shaped (py (der y G)) = true) ∧ Q (.bl (PyData.eqv (py (der x G)) (py (der y G)))) G
def dNe : DR2 := fun x y G Q => (zb2 (der x G) = true ∧ zb2 (der y G) = true ∧ SeqAt.shaped (py (der x G)) = true ∧ SeqAt.shaped (py (der y G)) = true) ∧ Q (.bl (!PyData.eqv (py (der x G)) (py (der y G)))) G
theorem zrx (hu : X.A.units + 64 < cLine) : OpD X (compareOp .Eq) dEq := zin fun pins s σ H G x y v u dx dy P I rx ry hr q1 q2 ⟨⟨p1, p2, s1, s2⟩, t⟩ =>
  thn (op_eqD hu pins s σ H _ _ v u (fun z H' => z = .bl (PyData.eqv (py (der dx G)) (py (der dy G))) ∧ H' = H) I rx ry ⟨_, _, zju hr q1 p1, zju hr q2 p2, s1, s2, rfl, rfl⟩) fun w s' ⟨z, H', I', rz, e1, e2⟩ => by
    subst e1 e2
    exact zay I' rz hr (by rw [VR]) t
theorem zjv (hu : X.A.units + 64 < cLine) : OpD X (compareOp .NotEq) dNe := zin fun pins s σ H G x y v u dx dy P I rx ry hr q1 q2 ⟨⟨p1, p2, s1, s2⟩, t⟩ =>
  thn (op_neD hu pins s σ H _ _ v u (fun z H' => z = .bl (!PyData.eqv (py (der dx G)) (py (der dy G))) ∧ H' = H) I rx ry ⟨_, _, zju hr q1 p1, zju hr q2 p2, s1, s2, rfl, rfl⟩) fun w s' ⟨z, H', I', rz, e1, e2⟩ => by
    subst e1 e2
    exact zay I' rz hr (by rw [VR]) t
/-- an order of plain data -/
def dOrd (g : PyData → PyData → Bool) : DR2 := fun x y G Q => (zb2 x = true ∧ zb2 y = true ∧ PySem.W.alike (py x) (py y) = true ∧ py x ≠ .none ∧ (py x).depth ≤ 64) ∧ Q (.bl (g (py x) (py y))) G
abbrev dLt : DR2 := dOrd PySem.W.dataLt
abbrev dLe : DR2 := dOrd fun a b => !PySem.W.dataLt b a
abbrev dGt : DR2 := dOrd fun a b => PySem.W.dataLt b a
abbrev dGe : DR2 := dOrd fun a b => !PySem.W.dataLt a b
theorem zri {f : Value → Value → Sem Value} {g : PyData → PyData → Bool} (hu : X.A.units + 64 < cLine)
    (h : ∀ {s : Shared} {a b : Value} {da db : PyData} {as bs : List Addr} {Q : Value → Shared → Prop}, Reads s.heap a da as → Reads s.heap b db bs → PySem.W.alike da db = true → da ≠ .none → X.A.units + min da.depth db.depth < cLine → Q (.bool (g da db)) s → wpAny (model X.prog X.w) X.A (f a b) Q X.xe s) : OpD X f (dOrd g) :=
  zin fun pins s σ H G x y v u dx dy P I rx ry hr q1 q2 ⟨⟨p1, p2, al, nn, dp⟩, t⟩ => by
    obtain ⟨as, r1⟩ := Dp.reads I _ _ v (q1.dp p1) rx
    obtain ⟨bs, r2⟩ := Dp.reads I _ _ u (q2.dp p2) ry
    exact h r1 r2 al nn (by have := Nat.min_le_left (py dx).depth (py dy).depth; omega) (zay (z := .bl _) I rfl hr (by rw [VR]) t)
theorem zx0 (hu : X.A.units + 64 < cLine) : OpD X (compareOp .Lt) dLt := zri hu fun r1 r2 h n u q => PySem.W.lt_data r1 r2 h n u q
theorem zw8 (hu : X.A.units + 64 < cLine) : OpD X (compareOp .LtE) dLe := zri hu fun r1 r2 h n u q => PySem.W.le_data r1 r2 h n u q
theorem zwx (hu : X.A.units + 64 < cLine) : OpD X (compareOp .Gt) dGt := zri hu fun r1 r2 h n u q => PySem.W.gt_data r1 r2 h n u q
theorem zuw (hu : X.A.units + 64 < cLine) : OpD X (compareOp .GtE) dGe := zri hu fun r1 r2 h n u q => PySem.W.ge_data r1 r2 h n u q
end
end DL
namespace DL
open PySem PySem.Spec PyProof.Rows L2
def dicN (y : D) (G : DHp) : Option (List (NestedKey × D)) := match y with
  | .nd (.dN ks) vs => some (ks.zip vs)
  | .ref a => (match G a with
    | some (.dN kvs) => some kvs
    | _ => none)
  | _ => none
def dicK (y : D) (G : DHp) : Option (List (Key × D)) := match y with
  | .nd (.dK ks) vs => some (ks.zip vs)
  | .ref a => (match G a with
    | some (.dK kvs) => some kvs
    | _ => none)
  | _ => none
def D.kK : D → Option Key
  | .int i => some (.inl i)
  | .str x => some (.inr x)
  | _ => none
/-- what stands at a key -/
def dval {κ : Type} [DecidableEq κ] (kvs : List (κ × D)) (k : κ) : Option D := (kvs.find? fun p => decide (p.1 = k)).map (·.2)
/-- d[k] = v -/
def dput {κ : Type} [DecidableEq κ] (kvs : List (κ × D)) (k : κ) (v : D) : List (κ × D) :=
  if kvs.any fun p => decide (p.1 = k) then kvs.map fun p => if p.1 = k then (p.1, v) else p else kvs ++ [(k, v)]
theorem znx {α β : Type} : ∀ {l : List α} {m : List β}, l.length = m.length → (l.zip m).map (·.1) = l
  | [], _, _ => rfl
  | _ :: _, [], h => by simp at h
  | a :: l, b :: m, h => by simp [znx (l := l) (m := m) (by simpa using h)]
theorem zol {α β : Type} : ∀ {l : List α} {m : List β}, l.length = m.length → (l.zip m).map (·.2) = m
  | [], [], _ => rfl
  | [], _ :: _, h => by simp at h
  | _ :: _, [], h => by simp at h
  | a :: l, b :: m, h => by simp [zol (l := l) (m := m) (by simpa using h)]
section
variable {K : Ml} {H : Hp} {G : DHp}
theorem zkt (hr : HR K H G) {d : D} {v : V} {kvs : List (NestedKey × D)} (h : VR K H G d v) (e : dicN d G = some kvs) : ∃ a ws, v = .ref a ∧ DnAt K H a (kvs.map (·.1)) ws ∧ VRs K H G (kvs.map (·.2)) ws := by
  cases d with
  | ref a =>
    rw [VR] at h
    have e : (match G a with | some (.dN kvs) => some kvs | _ => none) = some kvs := e
    cases g : G a with
    | none => rw [g] at e; cases e
    | some o =>
      cases o with
      | dN kvs' =>
        rw [g] at e
        cases e
        obtain ⟨ws, q, r⟩ := hr a _ g
        exact ⟨a, ws, h, q, r⟩
      | _ => rw [g] at e; cases e
  | nd k ds =>
    cases k with
    | dN ks =>
      cases e
      rw [VR] at h
      obtain ⟨a, vs, ev, ⟨_, q⟩, r⟩ := h
      have hl : ks.length = ds.length := by
        obtain ⟨xs, _, _, _, _, _, h4, _, _, _, h8⟩ := id q
        rw [← r.length, h8.length, ← h4, List.length_map, List.length_map]
      exact ⟨a, vs, ev, by rw [znx hl]; exact q, by rw [zol hl]; exact r⟩
    | _ => cases e
  | _ => cases e
theorem zko (hr : HR K H G) {d : D} {v : V} {kvs : List (Key × D)} (h : VR K H G d v) (e : dicK d G = some kvs) : ∃ a ws, v = .ref a ∧ Rd H a (.dK ws) ∧ ws.map (·.1) = kvs.map (·.1) ∧ VRs K H G (kvs.map (·.2)) (ws.map (·.2)) := by
  cases d with
  | ref a =>
    rw [VR] at h
    have e : (match G a with | some (.dK kvs) => some kvs | _ => none) = some kvs := e
    cases g : G a with
    | none => rw [g] at e; cases e
    | some o =>
      cases o with
      | dK kvs' =>
        rw [g] at e
        cases e
        obtain ⟨ws, q, z, r⟩ := hr a _ g
        exact ⟨a, ws, h, .inl q, z, r⟩
      | _ => rw [g] at e; cases e
  | nd k ds =>
    cases k with
    | dK ks =>
      cases e
      rw [VR] at h
      obtain ⟨a, vs, ev, ⟨l, o, q⟩, r⟩ := h
      have hl : ks.length = ds.length := by rw [l, r.length]
      exact ⟨a, ks.zip vs, ev, .inr ⟨o, q⟩, by rw [znx l, znx hl], by rw [zol l, zol hl]; exact r⟩
    | _ => cases e
  | _ => cases e
/-- the values found by keys are the same -/
theorem zoc {κ : Type} [DecidableEq κ] (k : κ) : ∀ {ws : List (κ × V)} {kvs : List (κ × D)}, ws.map (·.1) = kvs.map (·.1) → VRs K H G (kvs.map (·.2)) (ws.map (·.2)) → (dval kvs k = none ∧ valV ws k = none) ∨ ∃ d v, dval kvs k = some d ∧ valV ws k = some v ∧ VR K H G d v
  | [], [], _, _ => .inl ⟨rfl, rfl⟩
  | [], _ :: _, h, _ => by simp at h
  | _ :: _, [], h, _ => by simp at h
  | (k1, v) :: ws, (k2, d) :: kvs, h, r => by
    simp only [List.map_cons, List.cons.injEq] at h
    obtain ⟨h1, h2⟩ := h
    subst h1
    obtain ⟨v', r', e, q, t⟩ := VRs.uncons r
    simp only [List.map_cons, List.cons.injEq] at e
    obtain ⟨rfl, rfl⟩ := e
    by_cases hk : k1 = k
    · exact .inr ⟨d, v, by simp [dval, hk], by simp [valV, hk], q⟩
    · have := zoc k h2 t
      simpa [dval, valV, hk] using this
mutual
theorem zld : ∀ {d : D} {v : V} {k : NestedKey}, VR K H G d v → D.key d = some k → zcz K H k v
  | .non, _, _, h, e => by rw [D.key] at e; cases e; rw [VR] at h; rw [zcz]; exact h
  | .bl _, _, _, h, e => by simp [D.key] at e
  | .int _, _, _, h, e => by rw [D.key] at e; cases e; rw [VR] at h; rw [zcz]; exact h
  | .str _, _, _, h, e => by rw [D.key] at e; cases e; rw [VR] at h; rw [zcz]; exact h
  | .ty _, _, _, h, e => by simp [D.key] at e
  | .ref _, _, _, h, e => by simp [D.key] at e
  | .nd .tup ds, _, _, h, e => by
    rw [D.key] at e
    cases q : D.keys ds with
    | none => rw [q] at e; cases e
    | some ks =>
      rw [q] at e
      cases e
      rw [VR] at h
      obtain ⟨a, vs, rfl, hh, r⟩ := h
      rw [zcz]
      exact ⟨a, vs, rfl, hh, keys_at r q⟩
  | .nd .lst _, _, _, h, e => by simp [D.key] at e
  | .nd .scr _, _, _, h, e => by simp [D.key] at e
  | .nd (.ins _ _) _, _, _, h, e => by simp [D.key] at e
  | .nd (.dK _) _, _, _, h, e => by simp [D.key] at e
  | .nd (.dN _) _, _, _, h, e => by simp [D.key] at e
theorem keys_at : ∀ {ds : List D} {vs : List V} {ks : List NestedKey}, VRs K H G ds vs → D.keys ds = some ks → KeysAt K H ks vs
  | [], _, _, h, e => by rw [D.keys] at e; cases e; rw [KeysAt]; exact h.nil_of
  | d :: ds, _, _, h, e => by
    obtain ⟨v, r, rfl, q, t⟩ := h.uncons
    rw [D.keys] at e
    cases e1 : D.key d with
    | none => rw [e1] at e; cases e
    | some k =>
      cases e2 : D.keys ds with
      | none => rw [e1, e2] at e; cases e
      | some ks' =>
        rw [e1, e2] at e
        cases e
        rw [KeysAt]
        exact ⟨v, r, rfl, zld q e1, keys_at t e2⟩
end
mutual
/-- a key that is held, as a tree -/
theorem zv8 : ∀ {k : NestedKey} {v : V}, zcz K H k v → VR K H G (nkD k) v
  | .none, _, h => by rw [zcz] at h; rw [nkD, VR]; exact h
  | .num _, _, h => by rw [zcz] at h; rw [nkD, VR]; exact h
  | .text _, _, h => by rw [zcz] at h; rw [nkD, VR]; exact h
  | .tup ks, _, h => by
    rw [zcz] at h
    obtain ⟨a, vs, rfl, q, r⟩ := h
    rw [nkD, VR]
    exact ⟨a, vs, rfl, q, nkDs_vr r⟩
theorem nkDs_vr : ∀ {ks : List NestedKey} {vs : List V}, KeysAt K H ks vs → VRs K H G (nkDs ks) vs
  | [], _, h => by rw [KeysAt] at h; rw [nkDs, VRs]; exact h
  | k :: ks, _, h => by
    rw [KeysAt] at h
    obtain ⟨v, r, rfl, q, t⟩ := h
    rw [nkDs]
    exact .cons (zv8 q) (nkDs_vr t)
end
end
section
variable {X : Cx}
mutual
theorem zep {pins : List (Addr × Obj)} {σ : L2.St} {H : Hp} {s : Shared} (I : Inv X pins σ H s) : ∀ {k : NestedKey} {v : V} {u : Value}, zcz X.ml H k v → RelV v u → NestedIs s.heap k u
  | .none, _, _, h, r => by rw [zcz] at h; subst h; cases (show _ = Value.none from r); exact .none
  | .num i, _, _, h, r => by rw [zcz] at h; subst h; obtain ⟨t, rfl⟩ := r; exact .int i t
  | .text x, _, _, h, r => by rw [zcz] at h; subst h; obtain ⟨t, rfl⟩ := r; exact .text x t
  | .tup ks, _, _, h, r => by
    rw [zcz] at h
    obtain ⟨a, vs, rfl, q, t⟩ := h
    cases (show _ = Value.ref a from r)
    obtain ⟨its, rv, ⟨o, ho, hc, n, hd⟩, _⟩ := I.tuple q
    exact .tup ho hc hd (nested_all I t rv)
theorem nested_all {pins : List (Addr × Obj)} {σ : L2.St} {H : Hp} {s : Shared} (I : Inv X pins σ H s) : ∀ {ks : List NestedKey} {vs : List V} {us : List Value}, KeysAt X.ml H ks vs → Vals vs us → NestedAll s.heap ks us
  | [], _, _, h, r => by rw [KeysAt] at h; subst h; cases r; exact .nil
  | k :: ks, _, _, h, r => by
    rw [KeysAt] at h
    obtain ⟨v, w, rfl, q, t⟩ := h
    cases r with
    | cons r1 r2 => exact .cons (zep I q r1) (nested_all I t r2)
end
/-- a dict with nested keys at the library's level -/
theorem DnAt.of {pins : List (Addr × Obj)} {σ : L2.St} {H : Hp} {s : Shared} {a : Addr} {ks : List NestedKey} {vs : List V} (I : Inv X pins σ H s) (h : DnAt X.ml H a ks vs) :
    ∃ xs es ep, H a = some (rawO a es ep) ∧ s.heap.DictRaw a es ep ∧ es.toList = xs.map (entryOfKey (nestedKind X.prog X.w)) ∧ s.heap.DictOfH (nestedKind X.prog X.w) a xs ∧ (a == sysModules) = false ∧ xs.map (·.1) = ks ∧ ks.length ≤ sizeLine ∧ (∀ x ∈ xs, zcz X.ml H x.1 (.ref x.2.1) ∧ x.1.depth ≤ 8) ∧ Vals vs (xs.map (·.2.2)) := by
  obtain ⟨xs, es, ep, h1, h2, h3, h4, h5, h6, h7, h8⟩ := h
  obtain ⟨φ, _, _⟩ := (show ObjOk X.prog X.w H s.heap a (rawO a es ep) from I.hok a _ h1)
  refine ⟨xs, es, ep, h1, φ, h3, ?_, h2, h4, h6, h7, h8⟩
  obtain ⟨o, ho, hc, hd⟩ := φ
  exact ⟨o, es, ep, ho, hc, hd, h3, fun x hx => ⟨zep I (h7 x hx).1 rfl, (h7 x hx).2⟩, by rw [h4]; exact h5⟩
theorem zkr {A : Around} (hu : A.units + 64 < cLine) : (nestedKind X.prog X.w).room A.in1 := by
  show A.units + 1 + 8 < cLine
  omega
/-- the dict at a has been written -/
theorem zq8 {pins : List (Addr × Obj)} {σ : L2.St} {H : Hp} {s : Shared} {a : Addr} {es es' : Array DictEntry} {ep ep' t' : Nat} {h' : Heap} (I : Inv X pins σ H s) (hH : H a = some (rawO a es ep)) (hs : Heap.SameBut a s.heap h') (hr : h'.DictRaw a es' ep') :
    Inv X pins σ (upd H a (rawO a es' ep')) { s with heap := h', toks := t' } := by
  obtain ⟨o, ho, hc, hd⟩ := id hr
  exact I.write (by rw [hH]; trivial) (.inl rfl) (fun b u hb e => (hs.2 b hb).trans e) ⟨o, ho⟩ ⟨hr, ⟨o, ho⟩, fun h1 h2 φ k => φ.at k⟩
theorem zg7 {K : Type} {xs : List (NestedKey × Addr × Value)} {k : NestedKey} {vs : List V} (r : Vals vs (xs.map (·.2.2))) : ∀ (kvs : List (NestedKey × D)) (H : Hp) (G : DHp) (M : Ml), xs.map (·.1) = kvs.map (·.1) → VRs M H G (kvs.map (·.2)) vs →
    (dval kvs k = none ∧ atKey xs k = none) ∨ ∃ d v p, dval kvs k = some d ∧ atKey xs k = some p ∧ RelV v p.2 ∧ VR M H G d v := by
  induction xs generalizing vs with
  | nil =>
    intro kvs H G M h1 h2
    cases kvs with
    | nil => exact .inl ⟨rfl, rfl⟩
    | cons _ _ => simp at h1
  | cons x xs ih =>
    intro kvs H G M h1 h2
    cases kvs with
    | nil => simp at h1
    | cons y kvs =>
      obtain ⟨k2, d⟩ := y
      simp only [List.map_cons, List.cons.injEq] at h1
      obtain ⟨v, w, rfl, q, t⟩ := VRs.uncons h2
      cases r with
      | cons r1 r2 =>
        by_cases hk : k2 = k
        · exact .inr ⟨d, v, x.2, by simp [dval, hk], by simp [atKey, h1.1, hk], r1, q⟩
        · have hk' : ¬ x.1 = k := by rw [h1.1]; exact hk
          have := ih r2 kvs H G M h1.2 t
          simpa [dval, atKey, hk, hk'] using this
theorem zka {κ : Type} [DecidableEq κ] (k : κ) : ∀ kvs : List (κ × D), (kvs.any fun p => decide (p.1 = k)) = (dval kvs k).isSome
  | [] => rfl
  | (a, d) :: kvs => by
    by_cases h : a = k
    · simp [dval, h]
    · have := zka k kvs
      simp only [List.any_cons, h, decide_false, Bool.false_or, this]
      simp [dval, h]
def dIn (neg : Bool) : DR2 := fun x y G Q => match der y G with
  | .nd .lst ds => (zb2 x = true ∧ plainDs ds = true ∧ SeqAt.shaped (py x) = true ∧ PyData.canLayAll0 (pys ds) = true) ∧ Q (.bl (neg != (pys ds).any fun z => PyData.eqv z (py x))) G
  | .nd .tup ds => (zb2 x = true ∧ plainDs ds = true ∧ SeqAt.shaped (py x) = true ∧ PyData.canLayAll0 (pys ds) = true) ∧ Q (.bl (neg != (pys ds).any fun z => PyData.eqv z (py x))) G
  | _ => match dicN y G with
    | some kvs => (match x with
      | .nd .tup _ => (match x.key with
        | some k => k.depth ≤ 8 ∧ Q (.bl (neg != (dval kvs k).isSome)) G
        | none => False)
      | _ => False)
    | none => match dicK y G with
      | some kvs => (match x.kK with
        | some k => Q (.bl (neg != (dval kvs k).isSome)) G
        | none => False)
      | none => False
theorem zty {K : Ml} {H : Hp} {G : DHp} {d : D} {v : V} {k : Key} (h : VR K H G d v) (e : d.kK = some k) : v = kV k := by
  cases d with
  | int i => rw [VR] at h; cases e; exact h
  | str i => rw [VR] at h; cases e; exact h
  | _ => cases e
theorem znm (hu : X.A.units + 65 < cLine) : OpD X (compareOp .In) (dIn false) := zin fun pins s σ H G x y v u dx dy P I rx ry hr q1 q2 t => by
  unfold dIn at t
  split at t
  · rename_i ds e
    obtain ⟨⟨p1, p2, s1, s2⟩, t⟩ := t
    have hp := zju hr q2 (by rw [e, zb2]; exact p2)
    rw [e, py] at hp
    obtain ⟨as, r1⟩ := Dp.reads I _ _ v (q1.dp p1) rx
    obtain ⟨bs, r2⟩ := Dp.reads I _ _ u hp ry
    exact SeqAt.in_list_reads r2 r1 s2 (SeqAt.canLay_of_shaped s1) (room_in_shaped s1 hu) (zay (z := .bl _) I rfl hr (d := .bl ((pys ds).any fun z => PyData.eqv z (py dx))) (by rw [VR]) (by simpa using t))
  · rename_i ds e
    obtain ⟨⟨p1, p2, s1, s2⟩, t⟩ := t
    have hp := zju hr q2 (by rw [e, zb2]; exact p2)
    rw [e, py] at hp
    obtain ⟨as, r1⟩ := Dp.reads I _ _ v (q1.dp p1) rx
    obtain ⟨bs, r2⟩ := Dp.reads I _ _ u hp ry
    exact SeqAt.in_tuple_reads r2 r1 s2 (SeqAt.canLay_of_shaped s1) (room_in_shaped s1 hu) (zay (z := .bl _) I rfl hr (d := .bl ((pys ds).any fun z => PyData.eqv z (py dx))) (by rw [VR]) (by simpa using t))
  · split at t
    · rename_i kvs e
      cases dx with
      | nd kd ds =>
        cases kd with
        | tup =>
          have t : (match D.key (.nd .tup ds) with | some k => k.depth ≤ 8 ∧ P (.bl (false != (dval kvs k).isSome)) G | none => False) := t
          cases ek : D.key (.nd .tup ds) with
          | none => rw [ek] at t; exact t.elim
          | some k =>
            rw [ek] at t
            obtain ⟨hd8, t⟩ := (show k.depth ≤ 8 ∧ P (.bl (false != (dval kvs k).isSome)) G from t)
            have ka := zld q1 ek
            obtain ⟨a, ws, rfl, dn, vr⟩ := zkt hr q2 e
            obtain ⟨xs, es, ep, h1, h2, h3, h4, h5, h6, h7, h8, h9⟩ := DnAt.of I dn
            rw [VR] at q1
            obtain ⟨b, vs, rfl, hb, rb⟩ := q1
            cases (show v = Value.ref b from rx)
            cases (show u = Value.ref a from ry)
            refine wpAny_in_heap (zkr (by omega)) ⟨zep I ka rfl, hd8⟩ h5 h4 (zay (z := .bl _) (I.tok _) rfl hr (d := .bl (atKey xs k).isSome) (by rw [VR]) ?_)
            rcases zg7 (K := Unit) (k := k) h9 kvs H G X.ml h6 vr with ⟨e1, e2⟩ | ⟨d, w, p, e1, e2, _, _⟩
            · rw [e2]; rw [e1] at t; simpa using t
            · rw [e2]; rw [e1] at t; simpa using t
        | _ => exact t.elim
      | _ => exact t.elim
    · split at t
      · rename_i kvs e
        cases ek : dx.kK with
        | none => rw [ek] at t; exact t.elim
        | some k =>
          rw [ek] at t
          have t : P (.bl (false != (dval kvs k).isSome)) G := t
          obtain ⟨a, ws, rfl, rd, e1, vr⟩ := zko hr q2 e
          cases (show u = Value.ref a from ry)
          have ex := zty q1 ek
          subst ex
          have g : DGet H a (kV k) (valV ws k) := .inl ⟨ws, k, rd, rfl, rfl⟩
          refine d_in (by omega) I g rx fun s' I' => zay (z := .bl _) I' rfl hr (d := .bl (valV ws k).isSome) (by rw [VR]) ?_
          rcases zoc k e1 vr with ⟨e2, e3⟩ | ⟨d, w, e2, e3, _⟩
          · rw [e3]; rw [e2] at t; simpa using t
          · rw [e3]; rw [e2] at t; simpa using t
      · exact t.elim
theorem zhg (hu : X.A.units + 65 < cLine) : OpD X (compareOp .NotIn) (dIn true) := zin fun pins s σ H G x y v u dx dy P I rx ry hr q1 q2 t => by
  unfold dIn at t
  split at t
  · rename_i ds e
    obtain ⟨⟨p1, p2, s1, s2⟩, t⟩ := t
    have hp := zju hr q2 (by rw [e, zb2]; exact p2)
    rw [e, py] at hp
    obtain ⟨as, r1⟩ := Dp.reads I _ _ v (q1.dp p1) rx
    obtain ⟨bs, r2⟩ := Dp.reads I _ _ u hp ry
    exact SeqAt.notIn_list_reads r2 r1 s2 (SeqAt.canLay_of_shaped s1) (room_in_shaped s1 hu) (zay (z := .bl _) I rfl hr (d := .bl (!(pys ds).any fun z => PyData.eqv z (py dx))) (by rw [VR]) (by simpa using t))
  · rename_i ds e
    obtain ⟨⟨p1, p2, s1, s2⟩, t⟩ := t
    have hp := zju hr q2 (by rw [e, zb2]; exact p2)
    rw [e, py] at hp
    obtain ⟨as, r1⟩ := Dp.reads I _ _ v (q1.dp p1) rx
    obtain ⟨bs, r2⟩ := Dp.reads I _ _ u hp ry
    exact SeqAt.notIn_tuple_reads r2 r1 s2 (SeqAt.canLay_of_shaped s1) (room_in_shaped s1 hu) (zay (z := .bl _) I rfl hr (d := .bl (!(pys ds).any fun z => PyData.eqv z (py dx))) (by rw [VR]) (by simpa using t))
  · split at t
    · rename_i kvs e
      cases dx with
      | nd kd ds =>
        cases kd with
        | tup =>
          have t : (match D.key (.nd .tup ds) with | some k => k.depth ≤ 8 ∧ P (.bl (true != (dval kvs k).isSome)) G | none => False) := t
          cases ek : D.key (.nd .tup ds) with
          | none => rw [ek] at t; exact t.elim
          | some k =>
            rw [ek] at t
            obtain ⟨hd8, t⟩ := (show k.depth ≤ 8 ∧ P (.bl (true != (dval kvs k).isSome)) G from t)
            have ka := zld q1 ek
            obtain ⟨a, ws, rfl, dn, vr⟩ := zkt hr q2 e
            obtain ⟨xs, es, ep, h1, h2, h3, h4, h5, h6, h7, h8, h9⟩ := DnAt.of I dn
            rw [VR] at q1
            obtain ⟨b, vs, rfl, hb, rb⟩ := q1
            cases (show v = Value.ref b from rx)
            cases (show u = Value.ref a from ry)
            show wpAny _ _ (do return Value.bool (!(← contains (.ref a) (.ref b)))) _ X.xe s
            refine wpAny_bind (wpAny_contains_heap (zkr (X := X) (A := X.A) (by omega)) ⟨zep I ka rfl, hd8⟩ h5 h4 (wpAny_pure (zay (z := .bl _) (I.tok _) rfl hr (d := .bl (!(atKey xs k).isSome)) (by rw [VR]) ?_)))
            rcases zg7 (K := Unit) (k := k) h9 kvs H G X.ml h6 vr with ⟨e1, e2⟩ | ⟨d, w, p, e1, e2, _, _⟩
            · rw [e2]; rw [e1] at t; simpa using t
            · rw [e2]; rw [e1] at t; simpa using t
        | _ => exact t.elim
      | _ => exact t.elim
    · split at t
      · rename_i kvs e
        cases ek : dx.kK with
        | none => rw [ek] at t; exact t.elim
        | some k =>
          rw [ek] at t
          have t : P (.bl (true != (dval kvs k).isSome)) G := t
          obtain ⟨a, ws, rfl, rd, e1, vr⟩ := zko hr q2 e
          cases (show u = Value.ref a from ry)
          have ex := zty q1 ek
          subst ex
          have g : DGet H a (kV k) (valV ws k) := .inl ⟨ws, k, rd, rfl, rfl⟩
          refine d_notIn (by omega) I g rx fun s' I' => zay (z := .bl _) I' rfl hr (d := .bl (!(valV ws k).isSome)) (by rw [VR]) ?_
          rcases zoc k e1 vr with ⟨e2, e3⟩ | ⟨d, w, e2, e3, _⟩
          · rw [e3]; rw [e2] at t; simpa using t
          · rw [e3]; rw [e2] at t; simpa using t
      · exact t.elim
end
end DL
namespace DL
open PySem PySem.Spec PyProof.Rows L2
section
variable {K : Ml} {H : Hp} {G : DHp}
theorem zqz {κ : Type} [DecidableEq κ] (kvs : List (κ × D)) (k : κ) (v : D) : (dput kvs k v).map (·.1) = if (dval kvs k).isSome then kvs.map (·.1) else kvs.map (·.1) ++ [k] := by
  unfold dput
  rw [zka]
  split
  · rw [List.map_map]
    refine List.map_congr_left fun x _ => ?_
    simp only [Function.comp]
    split <;> rfl
  · simp
theorem zwn {κ : Type} [DecidableEq κ] (kvs : List (κ × V)) (k : κ) (v : V) : (putK kvs k v).map (·.1) = if (valV kvs k).isSome then kvs.map (·.1) else kvs.map (·.1) ++ [k] := by
  unfold putK
  rw [valV_any]
  split
  · rw [List.map_map]
    refine List.map_congr_left fun x _ => ?_
    simp only [Function.comp]
    split <;> rfl
  · simp
theorem zku {κ : Type} [DecidableEq κ] {k : κ} : ∀ {ws : List (κ × V)} {kvs : List (κ × D)}, ws.map (·.1) = kvs.map (·.1) → (valV ws k).isSome = (dval kvs k).isSome
  | [], [], _ => rfl
  | [], _ :: _, h => by simp at h
  | _ :: _, [], h => by simp at h
  | (k1, v) :: ws, (k2, d) :: kvs, h => by
    simp only [List.map_cons, List.cons.injEq] at h
    obtain ⟨h1, h2⟩ := h
    subst h1
    by_cases hk : k1 = k
    · simp [dval, valV, hk]
    · have := zku (k := k) h2
      simpa [dval, valV, hk] using this
theorem zqi {κ : Type} [DecidableEq κ] (k : κ) {d : D} {v : V} (hv : VR K H G d v) : ∀ {ws : List (κ × V)} {kvs : List (κ × D)}, ws.map (·.1) = kvs.map (·.1) → VRs K H G (kvs.map (·.2)) (ws.map (·.2)) →
    VRs K H G ((kvs.map fun p => if p.1 = k then (p.1, d) else p).map (·.2)) ((ws.map fun p => if p.1 = k then (p.1, v) else p).map (·.2))
  | [], [], _, _ => .nil
  | [], _ :: _, h, _ => by simp at h
  | _ :: _, [], h, _ => by simp at h
  | (k1, w) :: ws, (k2, e) :: kvs, h, r => by
    simp only [List.map_cons, List.cons.injEq] at h
    obtain ⟨h1, h2⟩ := h
    subst h1
    obtain ⟨v', r', eq, q, t⟩ := VRs.uncons r
    simp only [List.map_cons, List.cons.injEq] at eq
    obtain ⟨rfl, rfl⟩ := eq
    by_cases hk : k1 = k
    · simp only [List.map_cons, hk, if_true]
      exact .cons hv (zqi k hv h2 t)
    · simp only [List.map_cons, hk, if_false]
      exact .cons q (zqi k hv h2 t)
theorem zwj {κ : Type} [DecidableEq κ] (k : κ) {d : D} {v : V} (hv : VR K H G d v) {ws : List (κ × V)} {kvs : List (κ × D)} (h : ws.map (·.1) = kvs.map (·.1)) (r : VRs K H G (kvs.map (·.2)) (ws.map (·.2))) :
    (putK ws k v).map (·.1) = (dput kvs k d).map (·.1) ∧ VRs K H G ((dput kvs k d).map (·.2)) ((putK ws k v).map (·.2)) := by
  refine ⟨by rw [zwn, zqz, h, zku h], ?_⟩
  unfold dput putK
  rw [zka, valV_any, zku h]
  split
  · exact zqi k hv h r
  · rw [List.map_append, List.map_append]
    exact r.append (.cons hv .nil)
theorem zut {κ : Type} [DecidableEq κ] (kvs : List (κ × D)) (k : κ) (v : D) : (dput kvs k v).length ≤ kvs.length + 1 := by
  unfold dput
  split <;> simp
end
section
variable {X : Cx}
/-- the entries that stand behind a store in a dict with nested keys -/
theorem zvx {pins : List (Addr × Obj)} {σ : L2.St} {H : Hp} {G : DHp} {s : Shared} {a b : Addr} {kvs : List (NestedKey × D)} {k : NestedKey} {d : D} {v : V} {u : Value} {h' : Heap} {t' : Nat} {es : Array DictEntry} {ep : Nat} {ws : List V} {xs : List (NestedKey × Addr × Value)}
    (I : Inv X pins σ H s) (hr : HR X.ml H G) (hG : G a = some (.dN kvs)) (hH : H a = some (rawO a es ep)) (hsm : (a == sysModules) = false) (hm : s.heap.DictOfH (nestedKind X.prog X.w) a xs) (hks : xs.map (·.1) = kvs.map (·.1)) (hat : ∀ x ∈ xs, zcz X.ml H x.1 (.ref x.2.1) ∧ x.1.depth ≤ 8)
    (hvs : Vals ws (xs.map (·.2.2))) (vr : VRs X.ml H G (kvs.map (·.2)) ws) (hk : zcz X.ml H k (.ref b)) (h8 : k.depth ≤ 8) (hv : VR X.ml H G d v) (ru : RelV v u) (hlen : kvs.length < sizeLine) (hm' : h'.DictOfH (nestedKind X.prog X.w) a (storedH xs k b u)) (hs : Heap.SameBut a s.heap h') :
    ∃ H', Inv X pins σ H' { s with heap := h', toks := t' } ∧ Ext H G H' (up G a (.dN (dput kvs k d))) ∧ HR X.ml H' (up G a (.dN (dput kvs k d))) := by
  obtain ⟨o', es', ep', ho', hc', hd', he', _, hn'⟩ := hm'
  have raw : h'.DictRaw a es' ep' := ⟨o', ho', hc', hd'⟩
  have x : Ext H G (upd H a (rawO a es' ep')) (up G a (.dN (dput kvs k d))) := .write hG
  refine ⟨_, zq8 (t' := t') I hH hs raw, x, hr.write hG ?_⟩
  have some_eq : (atKey xs k).isSome = (dval kvs k).isSome := by
    rcases zg7 (K := Unit) (k := k) hvs kvs H G X.ml hks vr with ⟨e1, e2⟩ | ⟨_, _, _, e1, e2, _, _⟩ <;> rw [e1, e2] <;> rfl
  have keys : (storedH xs k b u).map (·.1) = (dput kvs k d).map (·.1) := by
    rw [zqz, ← some_eq, ← hks]
    unfold storedH
    split
    · rw [List.map_map]
      refine List.map_congr_left fun x _ => ?_
      simp only [Function.comp, putAt]
      split <;> rfl
    · simp
  have vals : ∃ ws', Vals ws' ((storedH xs k b u).map (·.2.2)) ∧ VRs X.ml H G ((dput kvs k d).map (·.2)) ws' := by
    have go : ∀ {xs : List (NestedKey × Addr × Value)} {kvs : List (NestedKey × D)} {ws : List V}, xs.map (·.1) = kvs.map (·.1) → Vals ws (xs.map (·.2.2)) → VRs X.ml H G (kvs.map (·.2)) ws →
        ∃ ws', Vals ws' ((xs.map (putAt k u)).map (·.2.2)) ∧ VRs X.ml H G ((kvs.map fun p => if p.1 = k then (p.1, d) else p).map (·.2)) ws' := by
      intro xs
      induction xs with
      | nil =>
        intro kvs ws h1 h2 h3
        cases kvs with
        | nil => exact ⟨[], .nil, .nil⟩
        | cons _ _ => simp at h1
      | cons y xs ih =>
        intro kvs ws h1 h2 h3
        cases kvs with
        | nil => simp at h1
        | cons z kvs =>
          obtain ⟨k2, e⟩ := z
          simp only [List.map_cons, List.cons.injEq] at h1
          obtain ⟨v0, w0, rfl, q0, t0⟩ := VRs.uncons h3
          cases h2 with
          | cons r1 r2 =>
            obtain ⟨ws', a1, a2⟩ := ih h1.2 r2 t0
            by_cases hkk : k2 = k
            · refine ⟨v :: ws', ?_, ?_⟩
              · rw [List.map_cons, List.map_cons]
                have : (putAt k u y).2.2 = u := by simp [putAt, h1.1, hkk]
                rw [this]
                exact .cons ru a1
              · simp only [List.map_cons, hkk, if_true]
                exact .cons hv a2
            · refine ⟨v0 :: ws', ?_, ?_⟩
              · rw [List.map_cons, List.map_cons]
                have : (putAt k u y).2.2 = y.2.2 := by simp [putAt, h1.1, hkk]
                rw [this]
                exact .cons r1 a1
              · simp only [List.map_cons, hkk, if_false]
                exact .cons q0 a2
    unfold storedH dput
    rw [zka, some_eq]
    split
    · exact go hks hvs vr
    · refine ⟨ws ++ [v], ?_, ?_⟩
      · rw [List.map_append]
        exact hvs.append (.cons ru .nil)
      · rw [List.map_append]
        exact vr.append (.cons hv .nil)
  obtain ⟨ws', v1, v2⟩ := vals
  refine ⟨ws', ⟨storedH xs k b u, es', ep', upd_same, hsm, he', keys, by rw [← keys]; exact hn', by rw [List.length_map]; have := zut kvs k d; omega, fun y hy => ?_, v1⟩, v2.ext hr x⟩
  have old : ∀ y ∈ xs, zcz X.ml (upd H a (rawO a es' ep')) y.1 (.ref y.2.1) ∧ y.1.depth ≤ 8 := fun y hy => ⟨(hat y hy).1.ext hr x, (hat y hy).2⟩
  unfold storedH at hy
  split at hy
  · obtain ⟨z, hz, rfl⟩ := List.mem_map.mp hy
    have e1 : (putAt k u z).1 = z.1 := by unfold putAt; split <;> rfl
    have e2 : (putAt k u z).2.1 = z.2.1 := by unfold putAt; split <;> rfl
    rw [e1, e2]
    exact old z hz
  · rcases List.mem_append.mp hy with hy | hy
    · exact old y hy
    · have : y = (k, b, u) := by simpa using hy
      subst this
      exact ⟨hk.ext hr x, h8⟩
abbrev DSet := D → D → D → DHp → (DHp → Prop) → Prop
def zqb (K : Ml) (r : DSet) : TSet := fun o i v H Q => ∃ do_ di dv G P, HR K H G ∧ VR K H G do_ o ∧ VR K H G di i ∧ VR K H G dv v ∧ r do_ di dv G P ∧ ∀ G' H', P G' → Ext H G H' G' → HR K H' G' → Q H'
def dSet : DSet := fun o i v G Q => match o with
  | .ref a => (match G a with
    | some (.lst ds) => (match i with
      | .int k => (match ixN ds.length k with
        | some j => Q (up G a (.lst (ds.set j v)))
        | none => False)
      | _ => False)
    | some (.dN kvs) => (match i with
      | .nd .tup ks => (match D.key (.nd .tup ks) with
        | some k => (k.depth ≤ 8 ∧ kvs.length < sizeLine) ∧ Q (up G a (.dN (dput kvs k v)))
        | none => False)
      | _ => False)
    | some (.dK kvs) => (match i.kK with
      | some k => kvs.length < sizeLine ∧ Q (up G a (.dK (dput kvs k v)))
      | none => False)
    | _ => False)
  | _ => False
theorem zyi (hu : X.A.units + 64 < cLine) : PSet X (zqb X.ml dSet) := by
  intro pins s σ H o i v ov iv u Q I ro ri rv ⟨do_, di, dv, G, P, hr, q1, q2, q3, t, k⟩
  cases do_ with
  | ref a =>
    rw [VR] at q1
    subst q1
    cases (show ov = Value.ref a from ro)
    cases hG : G a with
    | none =>
      have : False := by simpa [dSet, hG] using t
      exact this.elim
    | some ob =>
      cases ob with
      | rw _ _ _ =>
        have : False := by simpa [dSet, hG] using t
        exact this.elim
      | ins C fs =>
        have : False := by simpa [dSet, hG] using t
        exact this.elim
      | lst ds =>
        cases di with
        | int kk =>
          rw [VR] at q2; subst q2
          obtain ⟨vs, hv, r⟩ := hr a _ hG
          cases hj : ixN ds.length kk with
          | none =>
            have : False := by simpa [dSet, hG, hj] using t
            exact this.elim
          | some j =>
            have t : P (up G a (.lst (ds.set j dv))) := by simpa [dSet, hG, hj] using t
            have x : Ext H G (upd H a (.lst (vs.set j v))) (up G a (.lst (ds.set j dv))) := .write hG
            exact set_list pins s σ H (.ref a) _ v _ _ u Q I rfl ri rv ⟨a, vs, kk, j, rfl, rfl, hv, by rw [r.length]; exact hj, k _ _ t x (hr.write hG ⟨_, upd_same, (r.set j q3).ext hr x⟩)⟩
        | _ =>
          have : False := by simpa [dSet, hG] using t
          exact this.elim
      | dK kvs =>
        cases ek : di.kK with
        | none =>
          have : False := by simpa [dSet, hG, ek] using t
          exact this.elim
        | some kk =>
          have t : kvs.length < sizeLine ∧ P (up G a (.dK (dput kvs kk dv))) := by simpa [dSet, hG, ek] using t
          obtain ⟨ws, hw, hks, r⟩ := hr a _ hG
          have e := zty q2 ek
          subst e
          have x : Ext H G (upd H a (.dK (putK ws kk v))) (up G a (.dK (dput kvs kk dv))) := .write hG
          obtain ⟨p1, p2⟩ := zwj kk q3 hks r
          have hl : ws.length < sizeLine := by
            have := congrArg List.length hks
            rw [List.length_map, List.length_map] at this
            rw [this]; exact t.1
          exact d_setItem (by omega) I (.inl ⟨ws, kk, hw, rfl, hl, rfl⟩) ri rv fun s' I' => ⟨_, I', k _ _ t.2 x (hr.write hG ⟨_, upd_same, p1, p2.ext hr x⟩)⟩
      | dN kvs =>
        cases di with
        | nd kd ks =>
          cases kd with
          | tup =>
            cases ek : D.key (.nd .tup ks) with
            | none =>
              have : False := by simpa [dSet, hG, ek] using t
              exact this.elim
            | some kk =>
              have t : (kk.depth ≤ 8 ∧ kvs.length < sizeLine) ∧ P (up G a (.dN (dput kvs kk dv))) := by simpa [dSet, hG, ek] using t
              obtain ⟨⟨h8, hl⟩, t⟩ := t
              have ka := zld q2 ek
              rw [VR] at q2
              obtain ⟨b, vs, rfl, hb, rb⟩ := q2
              cases (show iv = Value.ref b from ri)
              obtain ⟨ws, dn, vr⟩ := hr a _ hG
              obtain ⟨xs, es, ep, h1, h2, h3, h4, h5, h6, h7, h9, h10⟩ := DnAt.of I dn
              refine wpAny_setItem_heap (hsz := by have := congrArg List.length h6; rw [List.length_map] at this; rw [this]; exact h7) (zkr hu) ⟨zep I ka rfl, h8⟩ h4 fun h' hm' hs => ?_
              obtain ⟨H', I', x, r'⟩ := zvx (t' := s.toks + (nestedKind X.prog X.w).draws kk) I hr hG h1 h5 h4 h6 h9 h10 vr ka h8 q3 rv hl hm' hs
              exact ⟨H', I', k _ _ t x r'⟩
          | _ =>
            have : False := by simpa [dSet, hG] using t
            exact this.elim
        | _ =>
          have : False := by simpa [dSet, hG] using t
          exact this.elim
  | _ => exact t.elim
def znc (To Ti : DTE) (r : DSet) : DTG := fun v η G Q => To η G fun o G1 => Ti η G1 fun i G2 => r o i v G2 fun G3 => Q η G3
abbrev IxD (X : Cx) (r : DR2) : Prop := IxR X (zmh X.ml r)
/-- the item at a place -/
def atD (ds : List D) (y : D) (Q : D → Prop) : Prop := match y with
  | .int i => (match atI ds i with
    | some d => Q d
    | none => False)
  | _ => False
def dIx : DR2 := fun x y G Q => match der x G with
  | .nd .lst ds => atD ds y fun d => Q d G
  | .nd .scr ds => atD ds y fun d => Q d G
  | .nd .tup ds => atD ds y fun d => Q d G
  | _ => match dicN x G with
    | some kvs => (match y with
      | .nd .tup ks => (match D.key (.nd .tup ks) with
        | some k => k.depth ≤ 8 ∧ (match dval kvs k with
          | some d => Q d G
          | none => False)
        | none => False)
      | _ => False)
    | none => match dicK x G with
      | some kvs => (match y.kK with
        | some k => (match dval kvs k with
          | some d => Q d G
          | none => False)
        | none => False)
      | none => False
theorem zso {K : Ml} {H : Hp} {G : DHp} {ds : List D} {vs : List V} {i : Int} {d : D} (r : VRs K H G ds vs) (e : atI ds i = some d) : ∃ v, atI vs i = some v ∧ VR K H G d v := by
  unfold atI at e ⊢
  rw [r.length]
  cases h : ixN ds.length i with
  | none => rw [h] at e; cases e
  | some j =>
    rw [h] at e
    obtain ⟨v, e1, q⟩ := r.get (show ds[j]? = some d from e)
    exact ⟨v, e1, q⟩
theorem zoh {K : Ml} {H : Hp} {G : DHp} {P : D → DHp → Prop} {Q : VK} {d : D} {v : V} (k : ∀ d G' v H', P d G' → Ext H G H' G' → HR K H' G' → VR K H' G' d v → Q v H') (hr : HR K H G) (p : P d G) (q : VR K H G d v) : Q v H := k d G v H p (.refl _ _) hr q
theorem ixd (hu : X.A.units + 64 < cLine) : IxD X dIx := by
  intro value slice pins s σ H x y v u Q I rx ry ⟨dx, dy, G, P, hr, q1, q2, t, k⟩ hs
  have doL : ∀ (a : Addr) (ds : List D) (vs : List V), x = .ref a → SqL X.K H a vs → VRs X.ml H G ds vs → (atD ds dy fun d => P d G) → wpAny (model X.prog X.w) X.A (subscriptTail value slice v u) (EP X pins σ Q) X.xe s := by
    intro a ds vs e hq r t
    cases dy with
    | int i =>
      rw [VR] at q2; subst q2
      cases ea : atI ds i with
      | none =>
        have : False := by simpa [atD, ea] using t
        exact this.elim
      | some d =>
        have t : P d G := by simpa [atD, ea] using t
        obtain ⟨z, e2, q⟩ := zso r ea
        exact ix_list value slice pins s σ H x _ v u Q I rx ry ⟨a, vs, i, z, e, rfl, hq, e2, zoh k hr t q⟩ hs
    | _ => exact t.elim
  unfold dIx at t
  split at t
  · rename_i ds e
    obtain ⟨a, vs, e1, h1, r1⟩ := zh9 hr q1 e
    exact doL a ds vs e1 (.inl (.inl h1)) r1 t
  · rename_i ds e
    have e := zhd e (fun _ h => nomatch h)
    rw [e, VR] at q1
    obtain ⟨a, vs, e1, h1, r1⟩ := q1
    exact doL a ds vs e1 (zc6 h1 (.inr rfl)) r1 t
  · rename_i ds e
    have e := zhd e (fun _ h => nomatch h)
    rw [e, VR] at q1
    obtain ⟨a, vs, e1, h1, r1⟩ := q1
    cases dy with
    | int i =>
      rw [VR] at q2; subst q2
      cases ea : atI ds i with
      | none =>
        have : False := by simpa [atD, ea] using t
        exact this.elim
      | some d =>
        have t : P d G := by simpa [atD, ea] using t
        obtain ⟨z, e2, q⟩ := zso r1 ea
        exact ix_tup value slice pins s σ H x _ v u Q I rx ry ⟨a, vs, i, z, e1, rfl, h1, e2, zoh k hr t q⟩ hs
    | _ => exact t.elim
  · split at t
    · rename_i kvs e
      cases dy with
      | nd kd ds =>
        cases kd with
        | tup =>
          cases ek : D.key (.nd .tup ds) with
          | none =>
            have : False := by simpa [ek] using t
            exact this.elim
          | some kk =>
            simp only [ek] at t
            obtain ⟨h8, t⟩ := t
            have ka := zld q2 ek
            obtain ⟨a, ws, rfl, dn, vr⟩ := zkt hr q1 e
            obtain ⟨xs, es, ep, h1, h2, h3, h4, h5, h6, h7, h9, h10⟩ := DnAt.of I dn
            rw [VR] at q2
            obtain ⟨b, vs, rfl, hb, rb⟩ := q2
            cases (show v = Value.ref a from rx)
            cases (show u = Value.ref b from ry)
            rcases zg7 (K := Unit) (k := kk) h10 kvs H G X.ml h6 vr with ⟨e1, e2⟩ | ⟨d, w, p, e1, e2, rw', qw⟩
            · rw [e1] at t; exact t.elim
            · rw [e1] at t
              exact tail_any h4.typeIs PySem.F.slot_dict_getitem.lookup (wpAny_getItem_heap (zkr hu) ⟨zep I ka rfl, h8⟩ h4 e2 ⟨w, H, I.tok _, rw', zoh k hr t qw⟩) hs
        | _ => exact t.elim
      | _ => exact t.elim
    · split at t
      · rename_i kvs e
        cases ek : dy.kK with
        | none => rw [ek] at t; exact t.elim
        | some kk =>
          rw [ek] at t
          simp only at t
          obtain ⟨a, ws, rfl, rd, e1, vr⟩ := zko hr q1 e
          cases (show v = Value.ref a from rx)
          have ex := zty q2 ek
          subst ex
          rcases zoc kk e1 vr with ⟨e2, e3⟩ | ⟨d, w, e2, e3, qw⟩
          · rw [e2] at t; exact t.elim
          · rw [e2] at t
            have g : DGet H a (kV kk) (some w) := .inl ⟨ws, kk, rd, rfl, e3.symm⟩
            exact tail_any (dict_typeIs I g) PySem.F.slot_dict_getitem.lookup (d_getItem (by omega) I g ry fun w' s' I' rw' => ⟨w, H, I', rw', zoh k hr t qw⟩) hs
      · exact t.elim
theorem zhr [Bs] {a b : Expr} {pos : Pos} {r : DR2} {Ta Tb : DTE} (hr : IxD X r) (ha : PED X a Ta) (hb : PED X b Tb) (hs : PlainIx b := by intro _ _; rfl) : PED X (.Subscript a b pos) (dOp r Ta Tb) :=
  PE.impI (pe_ix hr ha hb hs) fun _ _ _ _ _ _ h => zmw h
abbrev DTO := DSt → DHp → (Option Int → DHp → Prop) → Prop
def zgk : DTO := fun _ G Q => Q none G
def zod (T : DTE) : DTO := fun η G Q => T η G fun d G1 => match d with
  | .int i => Q (some i) G1
  | _ => False
abbrev DSl := D → Option Int → Option Int → DHp → DVK → Prop
def zil (r : DSl) (T : DTE) (Tl Th : DTO) : DTE := fun η G Q => T η G fun x G1 => Tl η G1 fun l G2 => Th η G2 fun u G3 => r x l u G3 Q
def zi0 (r r' : DR2) (Ta Tb Tc : DTE) : DTE := fun η G Q => Ta η G fun x G1 => Tb η G1 fun y G2 => r x y G2 fun z G3 => match z with
  | .bl k => if k = true then Tc η G3 fun w G4 => r' y w G4 Q else Q (.bl false) G3
  | _ => False
end
end DL
namespace DL
open PySem PySem.Spec PyProof.Rows L2
section
variable {X : Cx}
def dNeg (T : DTE) : DTE := fun η G Q => T η G fun d G1 => match d with
  | .int i => Q (.int (-i)) G1
  | _ => False
theorem zs7 [Bs] {a : Expr} {pos : Pos} {T : DTE} (h : PED X a T) : PED X (.UnaryOp .USub a pos) (dNeg T) :=
  PE.impI (pe_un un_neg h) fun _ _ σ H Q _ ⟨η, G, P, hs, hr, t, k⟩ => ⟨η, G, _, hs, hr, t, fun d G1 v H1 p x r q => by
    cases d with
    | int i =>
      rw [VR] at q
      exact ⟨i, q, k _ G1 _ H1 p x r (by rw [VR])⟩
    | _ => exact p.elim⟩
/-- what is done to a list of arguments -/
abbrev DRn := List D → DHp → DVK → Prop
def zs8 (K : Ml) (r : DRn) : List V → Hp → VK → Prop := fun vs H Q => ∃ ds G P, VRs K H G ds vs ∧ HR K H G ∧ r ds G P ∧ ∀ d G' v H', P d G' → Ext H G H' G' → HR K H' G' → VR K H' G' d v → Q v H'
abbrev zfj (X : Cx) (f : Value) (r : DRn) : Prop := CallR X f (zs8 X.ml r)
def dCB (r : DRn) (T : DTA) : DTE := fun η G Q => T η G fun ds G1 => r ds G1 Q
theorem zqo [Bs] {r : DRn} {T : DTA} {K : Ml} {σ : L2.St} {H : Hp} {Q : VK} (h : zhp K (dCB r T) σ H Q) : tCB (zs8 K r) (zx6 K T) σ H Q :=
  let ⟨η, G, P, hs, hr, t, k⟩ := h
  ⟨η, G, _, hs, hr, t, fun ds G1 vs H1 p1 x1 r1 q1 => ⟨ds, G1, P, q1, r1, p1, fun d G' v H' p x r q => k d G' v H' p (x1.trans x) r q⟩⟩
theorem zl [Bs] {id : String} {x : Str} {p pos : Pos} {e : Expr} {es : List Expr} {r : DRn} {T : DTA} (hc : zfj X (.builtin id) r) (hm : X.mg x = none) (hv : bootBuiltins x = some (.builtin id)) (ha : PAD X (e :: es) T) (hg : Gl X x := by rfl) (hn : x ≠ "__name__" := by decide) (hdb : (x == ("__debug__" : Str)) = false := by decide)
    (he : starEach (e :: es) X.env = (false, eval e X.env) :: starEach es X.env := by rfl) (hpl : (backTo pos (starEach es X.env)).any (·.1) = false := by rfl) : PED X (.Call (.Name x p) (e :: es) [] pos) (dCB r T) :=
  PE.impI (pe_callB hc hg hm hv ha hn hdb he hpl) fun _ _ _ _ _ _ h => zqo h
theorem zb8 [Bs] {id : String} {x : Str} {p pos : Pos} {e : Expr} {es : List Expr} {r : DRn} {T : DTA} (hc : zfj X (.type id) r) (hm : X.mg x = none) (hv : bootBuiltins x = some (.type id)) (ha : PAD X (e :: es) T) (hg : Gl X x := by rfl) (hn : x ≠ "__name__" := by decide) (hdb : (x == ("__debug__" : Str)) = false := by decide)
    (he : starEach (e :: es) X.env = (false, eval e X.env) :: starEach es X.env := by rfl) (hpl : (backTo pos (starEach es X.env)).any (·.1) = false := by rfl) : PED X (.Call (.Name x p) (e :: es) [] pos) (dCB r T) :=
  PE.impI (pe_callTy hc hg hm hv ha hn hdb he hpl) fun _ _ _ _ _ _ h => zqo h
theorem zy9 : Passes CX0 X fun _ _ _ => False := fun _ _ _ _ _ _ _ h => h.elim
/-- a def of the text keeps the promise sp -/
abbrev FnD (P : Program) (w : World) (K : PySem.W.Frag) (mg : Str → Option Value) (base : Heap) (k : Nat) (f : Addr) (fd : FuncData) (ps : List Str) (sp : DRn) : Prop := FnOk P w K mg base CX0 k f fd ps fun vs H Q _ => zs8 ⟨K, w⟩ sp vs H Q
theorem zp [Bs] {k : Nat} {f : Addr} {fd : FuncData} {ps : List Str} {sp : DRn} {x : Str} {p pos : Pos} {e : Expr} {es : List Expr} {T : DTA} (F : FnD X.prog X.w X.K X.mg X.base k f fd ps sp) (hr : Room k X.A) (hm : X.mg x = some (.ref f)) (hk : PySem.W.keepIn X.K (.ref f) = true) (hb : Binds X.K fd ps [])
    (ha : PAD X (e :: es) T) (hg : Gl X x := by rfl) (hdb : (x == ("__debug__" : Str)) = false := by decide) (he : starEach (e :: es) X.env = (false, eval e X.env) :: starEach es X.env := by rfl) (hpl : (backTo pos (starEach es X.env)).any (·.1) = false := by rfl) :
    PED X (.Call (.Name x p) (e :: es) [] pos) (dCB sp T) :=
  PE.impI (pe_call F hr hg hm hk hb .nil (zy9 (X := X)) ha hdb he hpl) fun _ _ _ _ _ _ h => by
    obtain ⟨η, G, P, hs, hr, t, k⟩ := zqo h
    exact ⟨η, G, P, hs, hr, t, fun ds G' vs H' p x r q => by
      show zs8 X.ml sp (vs ++ []) H' _
      rw [List.append_nil]
      exact k ds G' vs H' p x r q⟩
def tyD (T : String) (d : D) (G : DHp) : Prop := match d with
  | .str _ => T = "str"
  | .ref a => (match G a with
    | some (.lst _) => T = "list"
    | some (.dK _) => T = "dict"
    | some (.dN _) => T = "dict"
    | _ => False)
  | .nd .lst _ => T = "list"
  | .nd .scr _ => T = "list"
  | .nd (.dK _) _ => T = "dict"
  | .nd (.dN _) _ => T = "dict"
  | _ => False
theorem zx9 {pins : List (Addr × Obj)} {σ : L2.St} {H : Hp} {s : Shared} {a : Addr} {ks : List NestedKey} {vs : List V} (I : Inv X pins σ H s) (h : DnAt X.ml H a ks vs) :
    s.TypeIs (.ref a) "dict" ∧ (∀ b, Value.ref a = .ref b → ∃ ob, s.heap.get? b = some ob ∧ ob.dict = none) ∧ (a == sysModules) = false := by
  obtain ⟨xs, es, ep, h1, h2, h3, h4, h5, _⟩ := DnAt.of I h
  refine ⟨h4.typeIs, fun b q => ?_, h5⟩
  cases q
  obtain ⟨ob, ho, hx, _⟩ := h2
  exact ⟨ob, ho, hx.2.1⟩
theorem zv1 {pins : List (Addr × Obj)} {σ : L2.St} {H : Hp} {G : DHp} {s : Shared} {T : String} {d : D} {x : V} {v : Value} (I : Inv X pins σ H s) (hr : HR X.ml H G) (q : VR X.ml H G d x) (r : RelV x v) (ty : tyD T d G) :
    s.TypeIs v T ∧ ∀ a, v = .ref a → ∃ ob, s.heap.get? a = some ob ∧ ob.dict = none := by
  have doL : ∀ (a : Addr) (vs : List V), x = .ref a → SqL X.K H a vs → s.TypeIs v "list" ∧ ∀ a, v = .ref a → ∃ ob, s.heap.get? a = some ob ∧ ob.dict = none := fun a vs e hq => by
    subst e
    exact tyV_is (T := "list") I r (.inl ⟨rfl, vs, hq⟩)
  have doK : ∀ (a : Addr), x = .ref a → IsD H a → s.TypeIs v "dict" ∧ ∀ a, v = .ref a → ∃ ob, s.heap.get? a = some ob ∧ ob.dict = none := fun a e hq => by
    subst e
    cases (show v = Value.ref a from r)
    exact ⟨(isD_at I hq).1, (isD_at I hq).2.1⟩
  have doN : ∀ (a : Addr) (ks : List NestedKey) (vs : List V), x = .ref a → DnAt X.ml H a ks vs → s.TypeIs v "dict" ∧ ∀ a, v = .ref a → ∃ ob, s.heap.get? a = some ob ∧ ob.dict = none := fun a ks vs e hq => by
    subst e
    cases (show v = Value.ref a from r)
    exact ⟨(zx9 I hq).1, (zx9 I hq).2.1⟩
  cases d with
  | str z =>
    rw [VR] at q; subst q
    cases (show T = "str" from ty)
    exact tyV_is I r (show tyV X.K "str" (.str z) H from rfl)
  | ref a =>
    rw [VR] at q
    cases e : G a with
    | none =>
      have : False := by simpa [tyD, e] using ty
      exact this.elim
    | some o =>
      have u := hr a o e
      cases o with
      | lst ds =>
        have : T = "list" := by simpa [tyD, e] using ty
        subst this
        obtain ⟨vs, z, _⟩ := u
        exact doL a vs q (.inl (.inl z))
      | dK ds =>
        have : T = "dict" := by simpa [tyD, e] using ty
        subst this
        obtain ⟨ws, z, _⟩ := u
        exact doK a q (.inl ⟨ws, .inl z⟩)
      | dN ds =>
        have : T = "dict" := by simpa [tyD, e] using ty
        subst this
        obtain ⟨ws, z, _⟩ := u
        exact doN a _ ws q z
      | rw _ _ _ =>
        have : False := by simpa [tyD, e] using ty
        exact this.elim
      | ins C fs =>
        have : False := by simpa [tyD, e] using ty
        exact this.elim
  | nd k ds =>
    rw [VR] at q
    obtain ⟨a, vs, e, hh, _⟩ := q
    cases k with
    | lst =>
      cases (show T = "list" from ty)
      exact doL a vs e (zc6 hh (.inl rfl))
    | scr =>
      cases (show T = "list" from ty)
      exact doL a vs e (zc6 hh (.inr rfl))
    | dK ks =>
      cases (show T = "dict" from ty)
      obtain ⟨_, o, z⟩ := hh
      exact doK a e (.inl ⟨_, .inr ⟨o, z⟩⟩)
    | dN ks =>
      cases (show T = "dict" from ty)
      exact doN a ks vs e hh.2
    | _ => exact ty.elim
  | _ => exact ty.elim
abbrev MtD (X : Cx) (id : String) (r : DRn) : Prop := zfj X (.builtin id) r
def dM0 (T : String) (r : DRn) (To : DTE) : DTE := fun η G Q => To η G fun x G1 => tyD T x G1 ∧ r [x] G1 Q
def dM (T : String) (r : DRn) (To : DTE) (Ta : DTA) : DTE := fun η G Q => To η G fun x G1 => tyD T x G1 ∧ Ta η G1 fun ds G2 => r (x :: ds) G2 Q
theorem zvt [Bs] {T id : String} {o : Expr} {name : Str} {apos cpos : Pos} {r : DRn} {To : DTE} (pa : PlainAttrs T) (slot : Slot T name id) (hty : typeOf (.builtin id) = pure (.type "method_descriptor")) (hm : MtD X id r) (ho : PED X o To)
    (hbase : attributeBase o name X.env (eval o X.env) = eval o X.env := by rfl) (hline : (apos.endLine == cpos.line) = true := by rfl) : PED X (.Call (.Attribute o name apos) [] [] cpos) (dM0 T r To) := by
  refine ⟨fun pins s σ H Q I ⟨η, G, P, hs, hr, t, k⟩ => ?_⟩
  refine wpAny_Call_method0_late hbase hline (thn (ho.run pins s σ H (fun v H1 => ∃ d G1, (tyD T d G1 ∧ r [d] G1 P) ∧ Ext H G H1 G1 ∧ HR X.ml H1 G1 ∧ VR X.ml H1 G1 d v) I ⟨η, G, _, hs, hr, t, fun d G1 v H1 p x r q => ⟨d, G1, p, x, r, q⟩⟩) fun v s1 ⟨x, H1, I1, r1, d, G1, ⟨ty, p⟩, x1, hr1, q1⟩ => ?_)
  obtain ⟨h1, h2⟩ := zv1 I1 hr1 q1 r1 ty
  exact ⟨T, id, pa, slot, hty, h1, h2, Calls.callWith_builtin rfl (PySem.evalArgs_none (hm pins s1 σ H1 [x] [v] Q I1 (.cons r1 .nil) ⟨[d], G1, P, .cons q1 .nil, hr1, p, fun d G' v H' p x r q => k d G' v H' p (x1.trans x) r q⟩))⟩
theorem zob [Bs] {T id : String} {o e : Expr} {es : List Expr} {name : Str} {apos cpos : Pos} {r : DRn} {To : DTE} {Ta : DTA} (pa : PlainAttrs T) (slot : Slot T name id) (hty : typeOf (.builtin id) = pure (.type "method_descriptor")) (hm : MtD X id r) (ho : PED X o To) (ha : PAD X (e :: es) Ta)
    (hbase : attributeBase o name X.env (eval o X.env) = eval o X.env := by rfl)
    (hfew : ((backTo cpos (starEach (e :: es) X.env)).all (fun x => !x.1) && (backToKw cpos (keywordEach [] X.env)).all (fun x => x.1.isSome)
      && decide ((e :: es).length + ([] : List Keyword).length + (if ([] : List Keyword).isEmpty then 0 else 1) < 30)) = true := by rfl)
    (hline : (apos.endLine == cpos.line) = true := by rfl) (hs : starEach (e :: es) X.env = (false, eval e X.env) :: starEach es X.env := by rfl) (hplain : (backTo cpos (starEach es X.env)).any (·.1) = false := by rfl) :
    PED X (.Call (.Attribute o name apos) (e :: es) [] cpos) (dM T r To Ta) := by
  refine ⟨fun pins s σ H Q I ⟨η, G, P, hs', hr, t, k⟩ => ?_⟩
  refine wpAny_Call_method_late hbase hfew hline rfl (thn (ho.run pins s σ H (fun v H1 => ∃ d G1, (tyD T d G1 ∧ Ta η G1 fun ds G2 => r (d :: ds) G2 P) ∧ Ext H G H1 G1 ∧ HR X.ml H1 G1 ∧ VR X.ml H1 G1 d v) I ⟨η, G, _, hs', hr, t, fun d G1 v H1 p x r q => ⟨d, G1, p, x, r, q⟩⟩) fun v s1 ⟨x, H1, I1, r1, d, G1, ⟨ty, p⟩, x1, hr1, q1⟩ => ?_)
  obtain ⟨h1, h2⟩ := zv1 I1 hr1 q1 r1 ty
  refine ⟨T, id, pa, slot, hty, h1, h2, ?_⟩
  have hA := ha.run cpos pins s1 σ H1 (fun vs H2 => ∃ ds G2, r (d :: ds) G2 P ∧ Ext H1 G1 H2 G2 ∧ HR X.ml H2 G2 ∧ VRs X.ml H2 G2 ds vs) I1 ⟨η, G1, _, hs'.ext hr x1, hr1, p, fun ds G2 vs H2 p x r q => ⟨ds, G2, p, x, r, q⟩⟩
  rw [hs] at hA ⊢
  refine Calls.callWith_builtin (by show (false || (backTo cpos (starEach es X.env)).any (·.1)) = false; rw [hplain] <;> rfl) (Calls.evalArgs_plain ?_)
  exact thn hA fun us s2 ⟨vs, H2, I2, r2, ds, G2, p2, x2, hr2, q2⟩ => hm pins s2 σ H2 (x :: vs) (v :: us) Q I2 (.cons r1 r2) ⟨d :: ds, G2, P, .cons (q1.ext hr1 x2) q2, hr2, p2, fun d G' v H' p x r q => k d G' v H' p ((x1.trans x2).trans x) r q⟩
theorem zq1 {f : Value} {r : DRn} (h : ∀ pins s σ H G vs us ds P, Inv X pins σ H s → Vals vs us → HR X.ml H G → VRs X.ml H G ds vs → r ds G P →
    wpAny (model X.prog X.w) X.A (call f us) (fun w s' => ∃ z d H' G', Inv X pins σ H' s' ∧ RelV z w ∧ P d G' ∧ Ext H G H' G' ∧ HR X.ml H' G' ∧ VR X.ml H' G' d z) X.xe s) : zfj X f r := by
  intro pins s σ H vs us Q I r ⟨ds, G, P, q, hr, t, k⟩
  exact thn (h pins s σ H G vs us ds P I r hr q t) fun w s' ⟨z, d, H', G', I', rz, p, x', r', q'⟩ => ⟨z, H', I', rz, k d G' z H' p x' r' q'⟩
/-- what is asked of one argument -/
def d1 (g : D → DHp → DVK → Prop) : DRn := fun ds G Q => match ds with
  | [d] => g d G Q
  | _ => False
def d2 (g : D → D → DHp → DVK → Prop) : DRn := fun ds G Q => match ds with
  | [d, e] => g d e G Q
  | _ => False
def d3 (g : D → D → D → DHp → DVK → Prop) : DRn := fun ds G Q => match ds with
  | [d, e, f] => g d e f G Q
  | _ => False
theorem zgy {f : Value} {g : D → DHp → DVK → Prop} (h : ∀ pins s σ H G x v d P, Inv X pins σ H s → RelV x v → HR X.ml H G → VR X.ml H G d x → g d G P →
    wpAny (model X.prog X.w) X.A (call f [v]) (fun w s' => ∃ z d H' G', Inv X pins σ H' s' ∧ RelV z w ∧ P d G' ∧ Ext H G H' G' ∧ HR X.ml H' G' ∧ VR X.ml H' G' d z) X.xe s) : zfj X f (d1 g) := zq1 fun pins s σ H G vs us ds P I r hr q t => by
  match ds, q, t with
  | [d], q, t =>
    obtain ⟨x, vs, rfl, q1, q2⟩ := q.uncons
    cases q2.nil_of
    obtain ⟨u, rfl, r1⟩ := r.one
    exact h pins s σ H G x u d P I r1 hr q1 t
  | [], _, t => exact t.elim
  | _ :: _ :: _, _, t => exact t.elim
theorem zq9 {f : Value} {g : D → D → DHp → DVK → Prop} (h : ∀ pins s σ H G x y v u d e P, Inv X pins σ H s → RelV x v → RelV y u → HR X.ml H G → VR X.ml H G d x → VR X.ml H G e y → g d e G P →
    wpAny (model X.prog X.w) X.A (call f [v, u]) (fun w s' => ∃ z d H' G', Inv X pins σ H' s' ∧ RelV z w ∧ P d G' ∧ Ext H G H' G' ∧ HR X.ml H' G' ∧ VR X.ml H' G' d z) X.xe s) : zfj X f (d2 g) := zq1 fun pins s σ H G vs us ds P I r hr q t => by
  match ds, q, t with
  | [d, e], q, t =>
    obtain ⟨x, vs, rfl, q1, q2⟩ := q.uncons
    obtain ⟨y, vs, rfl, q3, q4⟩ := q2.uncons
    cases q4.nil_of
    obtain ⟨u, v, rfl, r1, r2⟩ := r.two
    exact h pins s σ H G x y u v d e P I r1 r2 hr q1 q3 t
  | [], _, t => exact t.elim
  | [_], _, t => exact t.elim
  | _ :: _ :: _ :: _, _, t => exact t.elim
/-- the list tracked at d -/
def onL (d : D) (G : DHp) (g : Addr → List D → Prop) : Prop := match d with
  | .ref a => (match G a with
    | some (.lst ds) => g a ds
    | _ => False)
  | _ => False
theorem zsk {d : D} {G : DHp} {g : Addr → List D → Prop} (h : onL d G g) : ∃ a ds, d = .ref a ∧ G a = some (.lst ds) ∧ g a ds := by
  cases d with
  | ref a =>
    have h : (match G a with | some (.lst ds) => g a ds | _ => False) := h
    cases e : G a with
    | none => rw [e] at h; exact h.elim
    | some o =>
      rw [e] at h
      cases o with
      | lst ds => exact ⟨a, ds, rfl, e, h⟩
      | _ => exact h.elim
  | _ => exact h.elim
theorem zwb {a : Addr} {G : DHp} {ds : List D} {g : Addr → List D → Prop} (e : G a = some (.lst ds)) (h : g a ds) : onL (.ref a) G g := by
  show (match G a with | some (.lst ds) => g a ds | _ => False)
  rw [e]; exact h
def zhe : DRn := d2 fun l y G Q => onL l G fun a ds => ds.length < sizeLine ∧ Q .non (up G a (.lst (ds ++ [y])))
theorem zgc : MtD X "list.append" zhe := zq9 fun pins s σ H G x y v u d e P I rx ry hr q1 q2 t => by
  obtain ⟨a, ds, rfl, hG, hz, t⟩ := zsk t
  rw [VR] at q1; subst q1
  obtain ⟨vs, hv, r⟩ := hr a _ hG
  have x1 : Ext H G (upd H a (.lst (vs ++ [y]))) (up G a (.lst (ds ++ [e]))) := .write hG
  exact thn (mt_append pins s σ H _ [y] v [u] (fun z H' => z = .non ∧ H' = upd H a (.lst (vs ++ [y]))) I rx (.cons ry .nil) ⟨a, vs, y, rfl, rfl, hv, by rw [r.length]; exact hz, rfl, rfl⟩) fun w s' ⟨z, H', I', rz, e1, e2⟩ => by
    subst e1 e2
    exact ⟨.non, .non, _, _, I', rz, t, x1, hr.write hG ⟨_, upd_same, (r.append (.cons q2 .nil)).ext hr x1⟩, by rw [VR]⟩
def dPop : DRn := d1 fun l G Q => onL l G fun a ds => match ds[ds.length - 1]? with
  | some y => Q y (up G a (.lst ds.dropLast))
  | none => False
theorem zv6 : MtD X "list.pop" dPop := zgy fun pins s σ H G x v d P I rx hr q1 t => by
  obtain ⟨a, ds, rfl, hG, t⟩ := zsk t
  rw [VR] at q1; subst q1
  obtain ⟨vs, hv, r⟩ := hr a _ hG
  cases e : ds[ds.length - 1]? with
  | none => rw [e] at t; exact t.elim
  | some y =>
    rw [e] at t
    obtain ⟨z, e2, q2⟩ := r.get e
    have x1 : Ext H G (upd H a (.lst vs.dropLast)) (up G a (.lst ds.dropLast)) := .write hG
    exact thn (mt_pop pins s σ H _ [] v [] (fun z' H' => z' = z ∧ H' = upd H a (.lst vs.dropLast)) I rx .nil ⟨a, vs, z, rfl, rfl, hv, by rw [r.length]; exact e2, rfl, rfl⟩) fun w s' ⟨z', H', I', rz, e1, e3⟩ => by
      subst e1 e3
      exact ⟨_, y, _, _, I', rz, t, x1, hr.write hG ⟨_, upd_same, r.dropLast.ext hr x1⟩, q2.ext hr x1⟩
def zjw : DR2 := fun x y G Q => match x, y with
  | .int i, .int j => Q (.int (i + j)) G
  | .str a, .str b => a.length + b.length ≤ sizeLine ∧ Q (.str (a ++ b)) G
  | .ref a, y => onL (.ref a) G fun a ds => (match der y G with
    | .nd .lst es => ds.length + es.length ≤ sizeLine ∧ Q (.ref a) (up G a (.lst (ds ++ es)))
    | _ => False)
  | _, _ => False
theorem zg5 : OpD X (inplaceOp .Add) zjw := zin fun pins s σ H G x y v u dx dy P I rx ry hr q1 q2 t => by
  unfold zjw at t
  split at t
  · rename_i i j
    rw [VR] at q1 q2
    subst q1 q2
    obtain ⟨t1, rfl⟩ := rx
    obtain ⟨t2, rfl⟩ := ry
    exact iadd_int (zay (z := .int (i + j)) (I.tok _) ⟨_, rfl⟩ hr (by rw [VR]) t)
  · rename_i i j
    rw [VR] at q1 q2
    subst q1 q2
    exact thn (iop_add_str pins s σ H _ _ v u (fun z H' => z = .str (i ++ j) ∧ H' = H) I rx ry ⟨i, j, rfl, rfl, t.1, rfl, rfl⟩) fun w s' ⟨z, H', I', rz, e1, e2⟩ => by
      subst e1 e2
      exact zay I' rz hr (by rw [VR]) t.2
  · rename_i a
    obtain ⟨a, ds, e0, hG, t⟩ := zsk t
    cases e0
    rw [VR] at q1; subst q1
    obtain ⟨vs, hv, r⟩ := hr a _ hG
    split at t
    · rename_i es ed
      obtain ⟨b, ws, e1, h1, r1⟩ := zh9 hr q2 ed
      subst e1
      have x1 : Ext H G (upd H a (.lst (vs ++ ws))) (up G a (.lst (ds ++ es))) := .write hG
      exact thn (iop_ext pins s σ H _ _ v u (fun z H' => z = .ref a ∧ H' = upd H a (.lst (vs ++ ws))) I rx ry ⟨a, b, vs, ws, rfl, rfl, hv, h1, by rw [r.length, r1.length]; exact t.1, rfl, rfl⟩) fun w s' ⟨z, H', I', rz, e1, e2⟩ => by
        subst e1 e2
        exact ⟨.ref a, .ref a, _, _, I', rz, t.2, x1, hr.write hG ⟨_, upd_same, (r.append r1).ext hr x1⟩, by rw [VR]⟩
    · exact t.elim
  · exact t.elim
def dAug (i : Nat) (T : DTE) (r : DR2) : DTS := fun F η G => match η[i]? with
  | some (some x) => T η G fun y G1 => r x y G1 fun z G2 => F.nx (η.set i (some z)) G2
  | _ => False
theorem zhv [Bs] {i : Nat} {x : Str} {e : Expr} {T : DTE} {op : Operator} {r : DR2} {pos' pos : Pos} (hN : X.N.Nodup) (hi : X.N[i]? = some x) (hx : Loc X.env.scope x) (he : PED X e T) (ho : OpD X (inplaceOp op) r) (hf : X.fn x = true ∨ X.env.scope.names.lookup x = some .local := by first | exact .inl rfl | exact .inr rfl | assumption) :
    PSD X (.AugAssign (.Name x pos') op e pos) (dAug i T r) :=
  PS.impI (ps_aug hN hi hx he (show PIp X op (zmh X.ml r) from ho) hf) fun _ _ σ H E _ ⟨η, G, F, hs, hr, t, k⟩ => by
    unfold dAug at t
    split at t
    · rename_i d e
      obtain ⟨v, q, rv⟩ := hs.2 i d e
      exact ⟨v, q, η, G, _, hs, hr, t, fun y G1 vy H1 p1 x1 r1 q1 => ⟨d, y, G1, _, r1, rv.ext hr x1, q1, p1, fun z G2 vz H2 p2 x2 r2 q2 => k.nx _ G2 _ H2 p2 (x1.trans x2) ((hs.ext hr (x1.trans x2)).set i q2) r2⟩⟩
    · exact t.elim
/-- o[i], of a list -/
def zs4 : DR2 := fun x y G Q => match der x G with
  | .nd .lst ds => atD ds y fun d => Q d G
  | _ => False
theorem zu8 : OpD X getItem zs4 := zin fun pins s σ H G x y v u dx dy P I rx ry hr q1 q2 t => by
  unfold zs4 at t
  split at t
  · rename_i ds e
    obtain ⟨a, vs, rfl, h1, r1⟩ := zh9 hr q1 e
    cases dy with
    | int i =>
      rw [VR] at q2; subst q2
      cases ea : atI ds i with
      | none =>
        have : False := by simpa [atD, ea] using t
        exact this.elim
      | some d =>
        have t : P d G := by simpa [atD, ea] using t
        obtain ⟨z, e2, q⟩ := zso r1 ea
        cases rx
        obtain ⟨tk, rfl⟩ := ry
        obtain ⟨its, r, pl, hz⟩ := I.list (.inl (.inl h1))
        obtain ⟨j, g1, g2, g3, g4, g5⟩ := atI_get e2
        obtain ⟨w, ew, rw'⟩ := r.get g2
        have hl := r.length
        have fin : ∃ z d H' G', Inv X pins σ H' s ∧ RelV z w ∧ P d G' ∧ Ext H G H' G' ∧ HR X.ml H' G' ∧ VR X.ml H' G' d z := zay I rw' hr q t
        have hn := line63
        by_cases h0 : 0 ≤ i
        · have hj : i.toNat = j := by
            rw [seqIndex_of h0 g5] at g1
            exact Option.some.inj g1
          exact wpAny_getItem_list pl.isList h0 (by omega) (by rw [hj]; simpa using ew) fin
        · have hj : (i + (its.toArray.size : Int)).toNat = j := by
            rw [seqIndex_neg (by omega) g4] at g1
            rw [List.size_toArray, ← hl]
            exact Option.some.inj g1
          exact wpAny_getItem_list_neg pl.isList (by omega) (by rw [List.size_toArray] <;> omega) (by omega) (by rw [hj]; simpa using ew) fin
    | _ => exact t.elim
  · exact t.elim
def zk3 (To Ti Te : DTE) (rg rp : DR2) (rs : DSet) : DTS := fun F η G => To η G fun o G1 => Ti η G1 fun i G2 => rg o i G2 fun x G3 => Te η G3 fun y G4 => rp x y G4 fun z G5 => rs o i z G5 fun G6 => F.nx η G6
theorem zu2 [Bs] {o i e : Expr} {To Ti Te : DTE} {rg rp : DR2} {rs : DSet} {op : Operator} {tpos pos : Pos} (ho : PED X o To) (hi : PED X i Ti) (hg : OpD X getItem rg) (he : PED X e Te) (hp : OpD X (inplaceOp op) rp) (hs : PSet X (zqb X.ml rs))
    (ha : ∀ ov iv new, augStore i ov iv new = (do holding [new, ov, iv] (setItem ov iv new); release [new, ov, iv] []; pure .next) := by intros; rfl) : PSD X (.AugAssign (.Subscript o i tpos) op e pos) (zk3 To Ti Te rg rp rs) :=
  PS.impI (ps_augS ho hi (show PGet X (zmh X.ml rg) from hg) he (show PIp X op (zmh X.ml rp) from hp) hs ha) fun _ _ σ H E _ ⟨η, G, F, hs, hr, t, k⟩ =>
    ⟨η, G, _, hs, hr, t, fun d1 G1 v1 H1 p1 x1 r1 q1 => ⟨η, G1, _, hs.ext hr x1, r1, p1, fun d2 G2 v2 H2 p2 x2 r2 q2 =>
      ⟨d1, d2, G2, _, r2, q1.ext r1 x2, q2, p2, fun d3 G3 v3 H3 p3 x3 r3 q3 => ⟨η, G3, _, hs.ext hr ((x1.trans x2).trans x3), r3, p3, fun d4 G4 v4 H4 p4 x4 r4 q4 =>
        ⟨d3, d4, G4, _, r4, q3.ext r3 x4, q4, p4, fun d5 G5 v5 H5 p5 x5 r5 q5 => ⟨d1, d2, d5, G5, _, r5, q1.ext r1 (((x2.trans x3).trans x4).trans x5), q2.ext r2 ((x3.trans x4).trans x5), q5, p5, fun G6 H6 p6 x6 r6 =>
          k.nx η G6 σ H6 p6 (((((x1.trans x2).trans x3).trans x4).trans x5).trans x6) (hs.ext hr (((((x1.trans x2).trans x3).trans x4).trans x5).trans x6)) r6⟩⟩⟩⟩⟩⟩
end
end DL
namespace DL
open PySem PySem.Spec PyProof.Rows L2
section
variable {X : Cx}
def sqD (d : D) (G : DHp) : Option (List D) := match der d G with
  | .nd .lst ds => some ds
  | .nd .scr ds => some ds
  | .nd .tup ds => some ds
  | _ => none
/-- .. lists alone -/
def lsD (d : D) (G : DHp) : Option (List D) := match der d G with
  | .nd .lst ds => some ds
  | .nd .scr ds => some ds
  | _ => none
theorem zmq {K : Ml} {H : Hp} {G : DHp} (hr : HR K H G) {d : D} {v : V} {ds : List D} (h : VR K H G d v) (e : lsD d G = some ds) : ∃ a vs, v = .ref a ∧ SqL K.K H a vs ∧ VRs K H G ds vs := by
  unfold lsD at e
  split at e
  · rename_i es e1
    cases e
    obtain ⟨a, vs, rfl, h1, r1⟩ := zh9 hr h e1
    exact ⟨a, vs, rfl, .inl (.inl h1), r1⟩
  · rename_i es e1
    cases e
    have e1 := zhd e1 (fun _ h => nomatch h)
    subst e1
    rw [VR] at h
    obtain ⟨a, vs, rfl, h1, r1⟩ := h
    exact ⟨a, vs, rfl, zc6 h1 (.inr rfl), r1⟩
  · cases e
theorem zwf {K : Ml} {H : Hp} {G : DHp} (hr : HR K H G) {d : D} {v : V} {ds : List D} (h : VR K H G d v) (e : sqD d G = some ds) : ∃ a vs, v = .ref a ∧ (SqL K.K H a vs ∨ SqT K.K H a vs) ∧ VRs K H G ds vs := by
  unfold sqD at e
  split at e
  · rename_i es e1
    cases e
    obtain ⟨a, vs, rfl, h1, r1⟩ := zh9 hr h e1
    exact ⟨a, vs, rfl, .inl (.inl (.inl h1)), r1⟩
  · rename_i es e1
    cases e
    have e1 := zhd e1 (fun _ h => nomatch h)
    subst e1
    rw [VR] at h
    obtain ⟨a, vs, rfl, h1, r1⟩ := h
    exact ⟨a, vs, rfl, .inl (zc6 h1 (.inr rfl)), r1⟩
  · rename_i es e1
    cases e
    have e1 := zhd e1 (fun _ h => nomatch h)
    subst e1
    rw [VR] at h
    obtain ⟨a, vs, rfl, h1, r1⟩ := h
    exact ⟨a, vs, rfl, .inr h1, r1⟩
  · cases e
def dLen : DRn := d1 fun d G Q => match sqD d G with
  | some ds => Q (.int ds.length) G
  | none => match dicN d G with
    | some kvs => Q (.int kvs.length) G
    | none => match dicK d G with
      | some kvs => Q (.int kvs.length) G
      | none => match d with
        | .str x => x.length ≤ sizeLine ∧ Q (.int x.length) G
        | _ => False
theorem zfr : zfj X (.builtin "len") dLen := zgy fun pins s σ H G x v d P I rx hr q1 t => by
  split at t
  · rename_i ds e
    obtain ⟨a, vs, rfl, hq, r⟩ := zwf hr q1 e
    exact thn (call_len_seq pins s σ H [.ref a] [v] (fun z H' => z = .int ds.length ∧ H' = H) I (.cons rx .nil) ⟨a, vs, rfl, hq, by rw [r.length], rfl⟩) fun w s' ⟨z, H', I', rz, e1, e2⟩ => by
      subst e1 e2
      exact zay I' rz hr (by rw [VR]) t
  · split at t
    · rename_i kvs e
      obtain ⟨a, ws, rfl, dn, vr⟩ := zkt hr q1 e
      obtain ⟨xs, es, ep, h1, h2, h3, h4, h5, h6, h7, _⟩ := DnAt.of I dn
      cases (show v = Value.ref a from rx)
      have hl : xs.length = kvs.length := by have := congrArg List.length h6; simpa using this
      have hn := line63
      refine call_len_dictH h5 h4 (by rw [List.length_map] at h7; omega) ?_
      rw [hl]
      exact zay (z := .int kvs.length) (I.tok _) ⟨_, rfl⟩ hr (by rw [VR]) t
    · split at t
      · rename_i kvs e
        obtain ⟨a, ws, rfl, rd, e1, vr⟩ := zko hr q1 e
        cases (show v = Value.ref a from rx)
        have hl : ws.length = kvs.length := by have := congrArg List.length e1; simpa using this
        refine d_len I rd fun tk s' I' => ?_
        rw [hl]
        exact zay (z := .int kvs.length) I' ⟨_, rfl⟩ hr (by rw [VR]) t
      · split at t
        · rename_i z _ _ _
          rw [VR] at q1; subst q1
          exact thn (call_len_str pins s σ H [.str z] [v] (fun z' H' => z' = .int z.length ∧ H' = H) I (.cons rx .nil) ⟨z, rfl, t.1, rfl, rfl⟩) fun w s' ⟨z', H', I', rz, e1, e2⟩ => by
            subst e1 e2
            exact zay I' rz hr (by rw [VR]) t.2
        · exact t.elim
def dInt : DRn := d1 fun d G Q => match d with
  | .int i => Q (.int i) G
  | .bl b => Q (.int (if b then 1 else 0)) G
  | _ => False
theorem zlk : zfj X (.type "int") dInt := zgy fun pins s σ H G x v d P I rx hr q1 t => by
  cases d with
  | int i =>
    rw [VR] at q1; subst q1
    exact thn (call_int1 pins s σ H [.int i] [v] (fun z' H' => z' = .int i ∧ H' = H) I (.cons rx .nil) (.inl ⟨i, rfl, rfl, rfl⟩)) fun w s' ⟨z', H', I', rz, e1, e2⟩ => by
      subst e1 e2
      exact zay I' rz hr (by rw [VR]) t
  | bl i =>
    rw [VR] at q1; subst q1
    exact thn (call_int1 pins s σ H [.bl i] [v] (fun z' H' => z' = .int (if i then 1 else 0) ∧ H' = H) I (.cons rx .nil) (.inr ⟨i, rfl, rfl, rfl⟩)) fun w s' ⟨z', H', I', rz, e1, e2⟩ => by
      subst e1 e2
      exact zay I' rz hr (by rw [VR]) t
  | _ => exact t.elim
def zw4 : DRn := d2 fun d e G Q => match d, e with
  | .int i, .int j => Q (.int (if j > i then j else i)) G
  | _, _ => False
def zxb : DRn := d2 fun d e G Q => match d, e with
  | .int i, .int j => Q (.int (if j < i then j else i)) G
  | _, _ => False
theorem zxi (hc : X.calm = true) : zfj X (.builtin "max") zw4 := zq9 fun pins s σ H G x y v u d e P I rx ry hr q1 q2 t => by
  split at t
  · rename_i i j
    rw [VR] at q1 q2; subst q1 q2
    exact thn (call_max2 hc pins s σ H [.int i, .int j] [v, u] (fun z' H' => z' = .int (if j > i then j else i) ∧ H' = H) I (.cons rx (.cons ry .nil)) ⟨i, j, rfl, rfl, rfl⟩) fun w s' ⟨z', H', I', rz, e1, e2⟩ => by
      subst e1 e2
      exact zay I' rz hr (by rw [VR]) t
  · exact t.elim
theorem zwl (hc : X.calm = true) : zfj X (.builtin "min") zxb := zq9 fun pins s σ H G x y v u d e P I rx ry hr q1 q2 t => by
  split at t
  · rename_i i j
    rw [VR] at q1 q2; subst q1 q2
    exact thn (call_min2 hc pins s σ H [.int i, .int j] [v, u] (fun z' H' => z' = .int (if j < i then j else i) ∧ H' = H) I (.cons rx (.cons ry .nil)) ⟨i, j, rfl, rfl, rfl⟩) fun w s' ⟨z', H', I', rz, e1, e2⟩ => by
      subst e1 e2
      exact zay I' rz hr (by rw [VR]) t
  · exact t.elim
def dSum : DRn := d1 fun d G Q => ∃ ns : List Int, lsD d G = some (ns.map .int) ∧ Q (.int ns.sum) G
theorem zv4 (hc : X.calm = true) : zfj X (.builtin "sum") dSum := zgy fun pins s σ H G x v d P I rx hr q1 ⟨ns, e, t⟩ => by
  obtain ⟨a, vs, rfl, hq, r⟩ := zmq hr q1 e
  have e3 := r.ints; subst e3
  exact thn (cr_sum hc pins s σ H [.ref a] [v] (fun z' H' => z' = .int ns.sum ∧ H' = H) I (.cons rx .nil) ⟨a, ns, rfl, hq, rfl, rfl⟩) fun w s' ⟨z', H', I', rz, e1, e2⟩ => by
    subst e1 e2
    exact zay I' rz hr (by rw [VR]) t
def zpl : DRn := d1 fun d G Q => ∃ ns : List Int, lsD d G = some (ns.map .int) ∧ 0 < ns.length ∧ ∀ m ∈ ns, (∀ y ∈ ns, y ≤ m) → Q (.int m) G
def zr5 : DRn := d1 fun d G Q => ∃ ns : List Int, lsD d G = some (ns.map .int) ∧ 0 < ns.length ∧ ∀ m ∈ ns, (∀ y ∈ ns, m ≤ y) → Q (.int m) G
theorem zjj (hc : X.calm = true) : zfj X (.builtin "max") zpl := zgy fun pins s σ H G x v d P I rx hr q1 ⟨ns, e, hl, t⟩ => by
  obtain ⟨a, vs, rfl, hq, r⟩ := zmq hr q1 e
  have e3 := r.ints; subst e3
  exact thn (cr_max hc pins s σ H [.ref a] [v] (fun z' H' => (∃ m, z' = .int m ∧ m ∈ ns ∧ (∀ y ∈ ns, y ≤ m)) ∧ H' = H) I (.cons rx .nil) ⟨a, ns, rfl, hq, hl, fun m h1 h2 => ⟨⟨m, rfl, h1, h2⟩, rfl⟩⟩) fun w s' ⟨z', H', I', rz, ⟨m, e1, h1, h2⟩, e2⟩ => by
    subst e1 e2
    exact zay I' rz hr (by rw [VR]) (t m h1 h2)
theorem zn7 (hc : X.calm = true) : zfj X (.builtin "min") zr5 := zgy fun pins s σ H G x v d P I rx hr q1 ⟨ns, e, hl, t⟩ => by
  obtain ⟨a, vs, rfl, hq, r⟩ := zmq hr q1 e
  have e3 := r.ints; subst e3
  exact thn (cr_min hc pins s σ H [.ref a] [v] (fun z' H' => (∃ m, z' = .int m ∧ m ∈ ns ∧ (∀ y ∈ ns, m ≤ y)) ∧ H' = H) I (.cons rx .nil) ⟨a, ns, rfl, hq, hl, fun m h1 h2 => ⟨⟨m, rfl, h1, h2⟩, rfl⟩⟩) fun w s' ⟨z', H', I', rz, ⟨m, e1, h1, h2⟩, e2⟩ => by
    subst e1 e2
    exact zay I' rz hr (by rw [VR]) (t m h1 h2)
theorem VRs.bls {K : Ml} {H : Hp} {G : DHp} {bs : List Bool} {vs : List V} (h : VRs K H G (bs.map D.bl) vs) : vs = bs.map V.bl :=
  h.map_eq _ _ fun a v q => by rw [VR] at q; exact q
def dAll : DRn := d1 fun d G Q => ∃ bs : List Bool, lsD d G = some (bs.map .bl) ∧ Q (.bl (bs.all id)) G
theorem zvz (hc : X.calm = true) : zfj X (.builtin "all") dAll := zgy fun pins s σ H G x v d P I rx hr q1 ⟨ns, e, t⟩ => by
  obtain ⟨a, vs, rfl, hq, r⟩ := zmq hr q1 e
  have e3 := r.bls; subst e3
  exact thn (cr_all hc pins s σ H [.ref a] [v] (fun z' H' => z' = .bl (ns.all id) ∧ H' = H) I (.cons rx .nil) ⟨a, ns, rfl, hq, rfl, rfl⟩) fun w s' ⟨z', H', I', rz, e1, e2⟩ => by
    subst e1 e2
    exact zay I' rz hr (by rw [VR]) t
def zk7 : DRn := d1 fun d G Q => match sqD d G with
  | some ds => Q (.nd .tup ds) G
  | none => False
theorem zj5 : zfj X (.type "tuple") zk7 := zgy fun pins s σ H G x v d P I rx hr q1 t => by
  split at t
  · rename_i ds e
    obtain ⟨a, vs, rfl, hq, r⟩ := zwf hr q1 e
    refine thn (call_tuple_of pins s σ H [.ref a] [v] (fun z H' => Ext H G H' G ∧ HR X.ml H' G ∧ VR X.ml H' G (.nd .tup ds) z) I (.cons rx .nil) ⟨a, vs, rfl, ?_⟩) fun w s' ⟨z, H', I', rz, x', r', q'⟩ => ⟨z, _, H', G, I', rz, t, x', r', q'⟩
    rcases hq with hq | hq
    · refine .inl ⟨hq, fun l hl => ?_⟩
      have x2 : Ext H G (upd H l (.tup vs)) G := .laid hl
      refine ⟨x2, hr.laid hl, ?_⟩
      rw [VR]
      exact ⟨l, vs, rfl, .inl (.inl upd_same), r.ext hr x2⟩
    · refine .inr ⟨hq, .refl _ _, hr, ?_⟩
      rw [VR]
      exact ⟨a, vs, rfl, hq, r⟩
  · exact t.elim
theorem zqf {K : Ml} {H : Hp} {G : DHp} : ∀ {ds : List D} {vs : List V} {us : List Value}, VRs K H G ds vs → Vals vs us → PySem.W.EachIs (fun u d => ∃ v, RelV v u ∧ VR K H G d v) us ds
  | [], _, _, h, r => by rw [h.nil_of] at r; cases r; exact .nil
  | d :: ds, _, _, h, r => by
    obtain ⟨v, vs, rfl, q, t⟩ := h.uncons
    cases r with
    | cons r1 r2 => exact .cons ⟨v, r1, q⟩ (zqf t r2)
theorem zki {K : Ml} {H : Hp} {G : DHp} : ∀ {us : List Value} {ds : List D}, PySem.W.EachIs (fun u d => ∃ v, RelV v u ∧ VR K H G d v) us ds → ∃ vs, Vals vs us ∧ VRs K H G ds vs
  | _, _, .nil => ⟨[], .nil, .nil⟩
  | _, _, .cons ⟨v, r, q⟩ t => by
    obtain ⟨vs, a, b⟩ := zki t
    exact ⟨v :: vs, .cons r a, .cons q b⟩
theorem zhm {pins : List (Addr × Obj)} {σ : L2.St} {H : Hp} {G : DHp} {s : Shared} (I : Inv X pins σ H s) : ∀ {ds : List D} {vs : List V} {us : List Value}, VRs X.ml H G ds vs → Vals vs us → plainDs ds = true → PySem.W.EachIs (fun u d => ∃ as, Reads s.heap u (py d) as) us ds
  | [], _, _, h, r, _ => by rw [h.nil_of] at r; cases r; exact .nil
  | d :: ds, _, _, h, r, p => by
    obtain ⟨v, vs, rfl, q, t⟩ := h.uncons
    rw [plainDs, Bool.and_eq_true] at p
    cases r with
    | cons r1 r2 => exact .cons (Dp.reads I _ _ _ (q.dp p.1) r1) (zhm I t r2 p.2)
def srt (ds : List D) : List D := ds.mergeSort (PySem.W.dataLe false py)
/-- a new list; it is tracked -/
def zd3 : DRn := d1 fun d G Q => match lsD d G with
  | some ds => (plainDs ds = true ∧ PySem.W.AllAlike (ds.map py) ∧ PySem.W.Sortable (ds.map py) ∧ ∀ d ∈ ds, (py d).depth ≤ 60) ∧ ∀ p, G p = none → Q (.ref p) (up G p (.lst (srt ds)))
  | none => False
theorem zcx (hu : X.A.units + 64 < cLine) : zfj X (.builtin "sorted") zd3 := zgy fun pins s σ H G x v d P I rx hr q1 t => by
  split at t
  · rename_i ds e
    obtain ⟨⟨p1, p2, p3, p4⟩, t⟩ := t
    obtain ⟨a, vs, rfl, hq, r⟩ := zmq hr q1 e
    cases (show v = Value.ref a from rx)
    obtain ⟨its, rv, pl, hz⟩ := I.list hq
    refine PySem.W.sorted_data (R := fun u d => ∃ v, RelV v u ∧ VR X.ml H G d v) (enc := py) (bs := ds) pl.isList (zqf r rv) (zhm I r rv p1) p2 p3 (by rw [← r.length]; exact hz) (fun b hb => by have := p4 b hb; omega) fun out ho eo => ?_
    obtain ⟨ws, rw', qs⟩ := zki eo
    obtain ⟨ep, he'⟩ := PyProof.Rows.sortedAll_at s.heap its out.toArray
    have hp : H (s.heap.objs.size + 1) = none := I.hok.fresh (Nat.le_succ _)
    have x2 : Ext H G (upd H (s.heap.objs.size + 1) (.lst ws)) (up G (s.heap.objs.size + 1) (.lst (srt ds))) := .new hp
    have hlen : ws.length ≤ sizeLine := by rw [rw'.length, ho, ← r.length]; exact hz
    have I' : Inv X pins σ (upd H (s.heap.objs.size + 1) (.lst ws)) { s with heap := PyProof.Rows.sortedAll s.heap its (List.toArray out) } :=
      I.laid (t' := s.toks) (fun _ _ => PyProof.Rows.sortedAll_old) (Nat.le_succ _) ⟨hlen, out, ep, rw', he'⟩
    exact ⟨.ref _, .ref _, _, _, I', rfl, t _ (hr.free hp), x2, hr.new hp ⟨ws, upd_same, qs.ext hr x2⟩, by rw [VR]⟩
  · exact t.elim
theorem zo4 {pins : List (Addr × Obj)} {σ : L2.St} {H : Hp} {s : Shared} (I : Inv X pins σ H s) : Inv X pins σ (upd H s.heap.objs.size (rawO s.heap.objs.size #[] 0)) { s with heap := s.heap.push { cls := .type "dict", data := .dict #[] } } := by
  have e := Heap.get?_push_size s.heap (o := { cls := .type "dict", data := .dict #[] }) rfl
  have hr : (s.heap.push { cls := .type "dict", data := .dict #[] }).DictRaw s.heap.objs.size #[] 0 := ⟨_, e, ⟨rfl, rfl, rfl⟩, rfl⟩
  exact I.laid (t' := s.toks) (fun _ _ q => Heap.get?_push_of_some _ q) (Nat.le_refl _) ⟨hr, ⟨_, e⟩, fun h1 h2 φ k => φ.at k⟩
theorem zwg {pins : List (Addr × Obj)} {σ : L2.St} {H : Hp} {s : Shared} (I : Inv X pins σ H s) : (s.heap.objs.size == sysModules) = false :=
  beq_eq_false_iff_ne.mpr (Ne.symm (Nat.ne_of_lt I.big))
theorem zml {K : Ml} {H : Hp} {a : Addr} (h : H a = some (rawO a #[] 0)) (hs : (a == sysModules) = false) : DnAt K H a [] [] :=
  ⟨[], #[], 0, h, hs, rfl, rfl, List.nodup_nil, Nat.zero_le _, (fun _ hx => nomatch hx), .nil⟩
end
end DL
namespace DL
open PySem PySem.Spec PyProof.Rows L2
/-- at d a dict with just the entries es stays -/
def zx5 (H : Hp) (d : Addr) (es : Array DictEntry) (ep : Nat) : Prop := (H d = some (rawO d es ep) ∨ ∃ o kvs, H d = some (.frz o (.dK kvs)) ∧ o.ExactDict ∧ o.data = .dict es ep) ∧ (d == sysModules) = false
section
variable {X : Cx} {pins : List (Addr × Obj)} {σ : L2.St} {H : Hp} {s : Shared} {d : Addr} {es : Array DictEntry} {ep : Nat}
theorem zx5.raw (h : zx5 H d es ep) (I : Inv X pins σ H s) : s.heap.DictRaw d es ep := by
  rcases h.1 with h | ⟨o, kvs, h, hx, hd⟩
  · obtain ⟨φ, _, _⟩ := (show ObjOk X.prog X.w H s.heap d (rawO d es ep) from I.hok d _ h)
    exact φ
  · obtain ⟨hg, _⟩ := I.hok d _ h
    exact ⟨o, hg, hx, hd⟩
end
/-- the items of a walk over kv -/
def EntV (es : Array DictEntry) (kv : List (V × V)) : Prop := Paired (fun (p : V × V) (e : DictEntry) => RelV p.1 e.key ∧ RelV p.2 e.val) kv es.toList
theorem EntV.size {es : Array DictEntry} {kv : List (V × V)} (h : EntV es kv) : kv.length = es.size := by
  have := Paired.length h
  rw [Array.length_toList] at this
  exact this
theorem EntV.at {es : Array DictEntry} {kv : List (V × V)} (h : EntV es kv) {i : Nat} {p : V × V} (e : kv[i]? = some p) (hi : i < es.size) : RelV p.1 es[i].key ∧ RelV p.2 es[i].val := by
  obtain ⟨b, hb, r⟩ := paired_get h e
  rw [Array.getElem?_toList, Array.getElem?_eq_getElem hi] at hb
  cases hb
  exact r
/-- a key of either kind of dict, as a tree -/
def kD : Key → D
  | .inl i => .int i
  | .inr x => .str x
theorem zy4 {K : Ml} {H : Hp} {G : DHp} (k : Key) : VR K H G (kD k) (kV k) := by
  cases k with
  | inl i => show VR K H G (.int i) (.int i); rw [VR]
  | inr i => show VR K H G (.str i) (.str i); rw [VR]
/-- the walk's own pairs -/
def zop (K : Ml) (H : Hp) (G : DHp) (ps : List (D × D)) (kv : List (V × V)) : Prop := VRs K H G (ps.map (·.1)) (kv.map (·.1)) ∧ VRs K H G (ps.map (·.2)) (kv.map (·.2))
theorem zvw {K : Ml} {H : Hp} {G : DHp} : ∀ ks : List Key, VRs K H G (ks.map kD) (ks.map kV)
  | [] => .nil
  | k :: ks => .cons (zy4 k) (zvw ks)
theorem zw3 {P : Program} {w : World} {k : Key} {u : Value} (h : (mixKind P w).is k u = true) : RelV (kV k) u := relV_key (show keyIs k u = true from h)
section
variable {X : Cx}
theorem zop.get {K : Ml} {H : Hp} {G : DHp} {ps : List (D × D)} {kv : List (V × V)} (h : zop K H G ps kv) (hl : ps.length = kv.length) {i : Nat} {p : D × D} (e : ps[i]? = some p) : ∃ k v, kv[i]? = some (k, v) ∧ VR K H G p.1 k ∧ VR K H G p.2 v := by
  have hi : i < kv.length := by rw [← hl]; exact (List.getElem?_eq_some_iff.mp e).1
  obtain ⟨k, e1, q1⟩ := h.1.get (i := i) (d := p.1) (by rw [List.getElem?_map, e]; rfl)
  obtain ⟨v, e2, q2⟩ := h.2.get (i := i) (d := p.2) (by rw [List.getElem?_map, e]; rfl)
  rw [List.getElem?_map, List.getElem?_eq_getElem hi] at e1 e2
  cases e1; cases e2
  exact ⟨_, _, List.getElem?_eq_getElem hi, q1, q2⟩
theorem zop.ext {K : Ml} {H H' : Hp} {G G' : DHp} {ps : List (D × D)} {kv : List (V × V)} (h : zop K H G ps kv) (hr : HR K H G) (x : Ext H G H' G') : zop K H' G' ps kv := ⟨h.1.ext hr x, h.2.ext hr x⟩
end
end DL
namespace DL
open PySem PySem.Spec PyProof.Rows L2
/-- a store of the dict at D by a comprehension -/
def StOk (Y : Cx) (St : Addr → V → V → Hp → (Hp → Prop) → Prop) : Prop := ∀ (D : Addr) (pins : List (Addr × Obj)) (σ : L2.St) (H : Hp) (s : Shared) (y z : V) (u r : Value) (Q : Hp → Prop) (E : Value → Shared → Prop), Inv Y pins σ H s → RelV y u → RelV z r → St D y z H Q →
  wpAny (model Y.prog Y.w) Y.A (dictSet D u r) (fun _ s' => ∃ H', Inv Y pins σ H' s' ∧ Q H') E s
section
variable {X : Cx}
def tDcG (o0 : Addr → HO) (St : Addr → V → V → Hp → (Hp → Prop) → Prop) (wi : TI) (g : TG) (tt : TT) (tk tv : TE) (vs : List Nat) : TE := fun σ H Q => wi σ H fun Jt M1 => ∀ D, M1 D = none → (D == sysModules) = false → ∃ Wi : Nat → Nat → Hp → Prop, (∃ n_m, Wi 0 n_m (upd M1 D (o0 D))) ∧ ∀ n_i n_m H, Wi n_i n_m H →
  (Jt.stop n_i H ∧ Q (.ref D) H) ∨ (Jt.go n_i H ∧ ∃ Nq : Hp → Prop, (∀ M', Nq M' → ∃ n_k, n_k < n_m ∧ Wi (n_i + 1) n_k M') ∧ ∀ v_x M', Jt.yld n_i H v_x M' → g v_x (wipe σ vs) M' fun τ M2 => wipe τ vs = wipe σ vs ∧ tt τ M2 fun ok_ M3 =>
    if ok_ = true then tk τ M3 fun ky M4 => tv τ M4 fun vz M5 => St D ky vz M5 Nq else Nq M3)
theorem zuq {pins : List (Addr × Obj)} {s : Shared} {σ : L2.St} {H : Hp} {Q : VK} {kx vx tg iter : Expr} {ifs : List Expr} {scope : Scope} {own : List (Str × Nat)} {pos pos' : Pos} {o0 : Addr → HO} {St : Addr → V → V → Hp → (Hp → Prop) → Prop} {tw : TI} {tg_ : TG} {tts : TT} {tkx tvx : TE} {use : Option (Value → Sem Unit)} {Qe : Value → Shared → Prop}
    (hc : X.calm = true) (hN : X.N.Nodup) (I : Inv X pins σ H s) (hi : PI X tg iter tw) (hbk : BlkOk X.N X.env.scope scope own)
    (hpg : ∀ (s : Shared) (H : Hp) (Cc : Addr) (cs_ : List (Str × Addr)) (ws : List Addr), PG (X.blk s H scope (compEnvC scope cs_ Cc X.env) ws) tg tg_) (hpt : ∀ (s : Shared) (H : Hp) (Cc : Addr) (cs_ : List (Str × Addr)) (ws : List Addr), PTs (X.blk s H scope (compEnvC scope cs_ Cc X.env) ws) ifs tts)
    (hpk : ∀ (s : Shared) (H : Hp) (Cc : Addr) (cs_ : List (Str × Addr)) (ws : List Addr), PE (X.blk s H scope (compEnvC scope cs_ Cc X.env) ws) kx tkx)
    (hpv : ∀ (s : Shared) (H : Hp) (Cc : Addr) (cs_ : List (Str × Addr)) (ws : List Addr), PE (X.blk s H scope (compEnvC scope cs_ Cc X.env) ws) vx tvx) (hfs : ∀ x, foldedSetIterable iter X.env x = pure x)
    (hnew : ∀ pins σ H s, Inv X pins σ H s → Inv X pins σ (upd H s.heap.objs.size (o0 s.heap.objs.size)) { s with heap := s.heap.push { cls := .type "dict", data := .dict #[] } }) (hst : ∀ (s : Shared) (H : Hp) (cenv : Env) (ws : List Addr), StOk (X.blk s H scope cenv ws) St)
    (h : tDcG o0 St tw tg_ tts tkx tvx (own.map (·.2)) σ H Q)
    (hend : ∀ Dd Cc s' n_m H', Inv X pins σ H' s' → Q (.ref Dd) H' → s'.heap.Ns Cc n_m → FpOk X pins H' Cc → compPost (model X.prog X.w) X.A X.xe use Qe (.ref Dd) Cc (.ok .next) s') :
    wpAny (model X.prog X.w) X.A (comprehension (.DictComp kx vx [⟨tg, iter, ifs, 0⟩] scope pos) scope X.env pos' newDict false (eval iter X.env) use) Qe X.xe s := by
  have hfr : ∀ y ∈ scope.names, y.2 = .free → ∃ c, X.env.cells.lookup y.1 = some c := fun y hy e => by
    rcases hbk.free y hy e with k | k
    · exact I.ok.has _ (.inl k)
    · exact I.ok.has _ (.inr k)
  refine wpAny_comprehension_free (use := use) rfl hfs (closure_ok hfr) hbk.kind (fun y hy e => by rw [hbk.uniq y hy, e])
    (thn (hi.run pins s σ H _ I h) fun xv1 t1 hx1 => thn hx1 fun iv1 t2 hh2 => ?_)
  obtain ⟨ia, ws, kd, Jt, M2, e, J2, Tu, u2, g2, q⟩ := hh2
  subst e
  refine wpAny_newObj_type
    (newEnv_comp ?_)
  generalize hd : t2.heap.objs.size = Dd
  have dn : M2 Dd = none := J2.hok.fresh (Nat.le_of_eq hd)
  obtain ⟨Wi, ⟨l0, z0⟩, trn⟩ := q Dd dn (by rw [← hd]; exact zwg J2)
  -- the new list
  generalize ht3 : ({ t2 with heap := t2.heap.push { cls := .type "dict", data := .dict #[] } } : Shared) = t3
  have J3 : Inv X pins σ (upd M2 Dd (o0 Dd)) t3 := by
    rw [← ht3]
    rw [← hd]
    exact hnew pins σ M2 t2 J2
  have h3 : t3.heap = t2.heap.push { cls := .type "dict", data := .dict #[] } := by rw [← ht3]
  have young : ∀ b ∈ ws, b < t2.heap.objs.size := fun b hb => by
    obtain ⟨o, e, _⟩ := Tu.obj _ _ u2 b hb
    exact Heap.lt_size e
  have g3 : ∀ b ∈ ws, FpOk X pins (upd M2 Dd (o0 Dd)) b ∧ b < t3.heap.objs.size := fun b hb => by
    have hlt := young b hb
    refine ⟨⟨?_, (g2 b hb).2⟩, by rw [h3, Heap.size_push]; exact Nat.lt_succ_of_lt hlt⟩
    rw [upd_ne (by rw [← hd]; exact Nat.ne_of_lt hlt)]
    exact (g2 b hb).1
  have u3 : kd 0 t3.heap := Tu.keep _ _ _ u2 fun b _ o e => by rw [h3]; exact Heap.get?_push_of_some _ e
  have J4 := block_start J3 hbk hN g3
  have pa1 := hpg t3 (upd M2 Dd (o0 Dd)) t3.heap.objs.size (cellsFrom (t3.heap.objs.size + 1) scope.names (cloFrom X.env.cells scope.names [])) ws
  have pa2 := hpt t3 (upd M2 Dd (o0 Dd)) t3.heap.objs.size (cellsFrom (t3.heap.objs.size + 1) scope.names (cloFrom X.env.cells scope.names [])) ws
  have pa3 := hpk t3 (upd M2 Dd (o0 Dd)) t3.heap.objs.size (cellsFrom (t3.heap.objs.size + 1) scope.names (cloFrom X.env.cells scope.names [])) ws
  have pa4 := hpv t3 (upd M2 Dd (o0 Dd)) t3.heap.objs.size (cellsFrom (t3.heap.objs.size + 1) scope.names (cloFrom X.env.cells scope.names [])) ws
  show codeAny _ _ (.compStart (.DictComp kx vx [⟨tg, iter, ifs, 0⟩] scope pos) 0 (.ref ia) (.ref Dd) (compEnvC scope (cellsFrom (t3.heap.objs.size + 1) scope.names (cloFrom X.env.cells scope.names [])) t3.heap.objs.size X.env)) (compPost (model X.prog X.w) X.A X.xe use Qe (.ref Dd) t3.heap.objs.size) { t3 with heap := pushCells (t3.heap.push { cls := .type "dict", data := .dict #[] }) scope.names }
  have gone : ∀ b ∈ ws, (upd M2 Dd (o0 Dd)) b = none := fun b hb => (g3 b hb).1.1
  generalize hcv : compEnvC scope (cellsFrom (t3.heap.objs.size + 1) scope.names (cloFrom X.env.cells scope.names [])) t3.heap.objs.size X.env = cv at J4 pa1 pa2 pa3 pa4 ⊢
  have cl_ : cv.locals = t3.heap.objs.size := by subst hcv; rfl
  generalize hM3 : upd M2 Dd (o0 Dd) = M3 at J3 J4 pa1 pa2 pa3 pa4 z0 gone g3
  generalize ht4 : ({ t3 with heap := pushCells (t3.heap.push { cls := .type "dict", data := .dict #[] }) scope.names } : Shared) = t4 at J4 ⊢
  have u4 : kd 0 t4.heap := Tu.keep _ _ _ u3 fun b _ o e => by rw [← ht4]; exact pushCells_keeps _ _ _ _ (Heap.get?_push_of_some _ e)
  have calm_ : ∀ {σ' : L2.St} {H' : Hp} {s' : Shared}, Inv (X.blk t3 M3 scope cv ws) [] σ' H' s' → (∀ b ∈ ws, H' b = none) → ∀ b ∈ ws, FpOk (X.blk t3 M3 scope cv ws) [] H' b := fun {σ' H' s'} J' hn b hb =>
    ⟨hn b hb, (J'.ok.exf b hb).1, J'.ok.exfs b hb, .inl hb, fun x c e => (J'.ok.exf b hb).2 x c e, fun p hp => absurd (show p ∈ ([] : List (Addr × Obj)) ++ [] from hp) (by simp)⟩
  have go_ : codeAny (model X.prog X.w) X.A (.compLoop (.DictComp kx vx [⟨tg, iter, ifs, 0⟩] scope pos) 0 (.ref ia) (.ref Dd) cv) (compPost (model X.prog X.w) X.A X.xe use Qe (.ref Dd) t3.heap.objs.size) t4 := by
    refine compLoop_anyD (fun n s' => ∃ n_i H', Inv (X.blk t3 M3 scope cv ws) [] (wipe σ (own.map (·.2))) H' s' ∧ kd n_i s'.heap ∧ (∀ b ∈ ws, H' b = none) ∧ Wi n_i n H') ?_ l0 ⟨0, M3, J4, u4, gone, z0⟩
    rintro n t5 ⟨n_i, M5, J5, u5, k5, z5⟩
    rcases trn n_i n M5 z5 with ⟨ends, q_⟩ | ⟨go, Nx, hnx, stp⟩
    · have e1 := Tu.done (X.blk t3 M3 scope cv ws) rfl rfl rfl hc n_i [] t5 _ M5 (fun _ _ => False) J5 (calm_ J5 k5) u5 ends
      refine thnF e1 fun r t6 ⟨hr, J6⟩ => ?_
      subst hr
      -- back in the def's context
      have J7 : Inv X pins σ M5 t6 := J3.call' (ch := ws) J6.os J6.base J6.hok J6.bare fun b hb => ⟨(g3 b hb).1.2.2.2.1, (g3 b hb).1.2.1, (g3 b hb).1.2.2.2.2.1, (g3 b hb).1.2.2.2.2.2⟩
      have cN : M5 t3.heap.objs.size = none := by
        have z : M5 cv.locals = none := J6.free
        rw [cl_] at z
        exact z
      obtain ⟨n_m, hn, _⟩ := J6.loc
      have hn : t6.heap.Ns cv.locals n_m := hn
      rw [cl_] at hn
      exact hend Dd t3.heap.objs.size t6 n_m M5 J7 q_ hn (J3.fpOk (Nat.le_refl _) cN)
    · have e2 := Tu.item (X.blk t3 M3 scope cv ws) rfl rfl rfl hc n_i [] t5 _ M5 (fun _ _ => False) J5 (calm_ J5 k5) u5 go
      refine thnF e2 fun r t6 ⟨u, hr, hh6⟩ => ?_
      subst hr
      refine thnF hh6 fun _ t7 ⟨x, M7, J7, r_7, y7, u7, k7⟩ => ?_
      have J7' := J7.pinned (calm_ J7 k7) (Tu.obj _ _ u7)
      refine thnF (pa1.run _ t7 _ M7 x u _ J7' r_7 (stp x M7 y7)) fun _ t8 ⟨σ8, M8, J8, hw8, p8⟩ => ?_
      refine thnF (pa2.run _ t8 σ8 M8 _ J8 p8) fun b t9 ⟨M9, J9, p9⟩ => ?_
      -- the turn's end
      have over : ∀ {s' : Shared} {H' : Hp}, Inv (X.blk t3 M3 scope cv ws) ([] ++ pinsAt ws t7.heap) σ8 H' s' → Nx H' → ∃ n_m, n_m < n ∧ ∃ n_i H', Inv (X.blk t3 M3 scope cv ws) [] (wipe σ (own.map (·.2))) H' s' ∧ kd n_i s'.heap ∧ (∀ b ∈ ws, H' b = none) ∧ Wi n_i n_m H' := fun {s' H'} J' nx => by
        obtain ⟨m', hm_, z'⟩ := hnx H' nx
        have pin1 : ∀ b ∈ ws, ∀ o, t7.heap.get? b = some o → s'.heap.get? b = some o ∧ H' b = none := fun b hb o e =>
          let z := J'.pin (b, o) (List.mem_append_right _ (List.mem_append_right _ (mem_pinsAt hb e)))
          ⟨z.1, z.2.1⟩
        have hlen8 : (wipe σ (own.map (·.2))).length = σ8.length := by
          rw [← hw8, wipe_length]
        refine ⟨m', hm_, n_i + 1, H', (J'.unpinned (pins := [])).weak hlen8 (fun j v e => ?_), Tu.keep _ _ _ u7 fun b hb o e => (pin1 b hb o e).1, fun b hb => ?_, z'⟩
        · rw [← hw8] at e
          exact (wipe_some e).1
        · obtain ⟨o, e, _⟩ := Tu.obj _ _ u7 b hb
          exact (pin1 b hb o e).2
      cases b with
      | false =>
        simp only [Bool.false_eq_true, if_false] at p9 ⊢
        exact over J9 p9
      | true =>
        simp only [if_true] at p9 ⊢
        refine thnF (pa3.run _ t9 σ8 M9 _ J9 p9) fun z ta ⟨k_y, Ma, Ja, ra, p10⟩ => ?_
        refine thnF (pa4.run _ ta σ8 Ma _ Ja p10) fun zz tb ⟨v_y, Mb, Jb, rb, nx⟩ => ?_
        exact thnF (hst t3 M3 cv ws Dd _ _ _ _ _ _ _ _ _ (fun _ _ => False) Jb ra rb nx) fun _ tc ⟨Mc, Jc, nx12⟩ => over Jc nx12
  exact codeAny_compStart_dict go_ (Tu.self X.A 0 _ _ _ u4 go_)
/-- as a value -/
theorem zx3 {o0 : Addr → HO} {St : Addr → V → V → Hp → (Hp → Prop) → Prop} {kx vx tg iter : Expr} {ifs : List Expr} {scope : Scope} {own : List (Str × Nat)} {pos : Pos} {tw : TI} {tg_ : TG} {tts : TT} {tkx tvx : TE} (hc : X.calm = true) (hN : X.N.Nodup) (hi : PI X tg iter tw) (hbk : BlkOk X.N X.env.scope scope own)
    (hnew : ∀ pins σ H s, Inv X pins σ H s → Inv X pins σ (upd H s.heap.objs.size (o0 s.heap.objs.size)) { s with heap := s.heap.push { cls := .type "dict", data := .dict #[] } }) (hst : ∀ (s : Shared) (H : Hp) (cenv : Env) (ws : List Addr), StOk (X.blk s H scope cenv ws) St)
    (hpg : ∀ (s : Shared) (H : Hp) (Cc : Addr) (cs_ : List (Str × Addr)) (ws : List Addr), PG (X.blk s H scope (compEnvC scope cs_ Cc X.env) ws) tg tg_) (hpt : ∀ (s : Shared) (H : Hp) (Cc : Addr) (cs_ : List (Str × Addr)) (ws : List Addr), PTs (X.blk s H scope (compEnvC scope cs_ Cc X.env) ws) ifs tts)
    (hpk : ∀ (s : Shared) (H : Hp) (Cc : Addr) (cs_ : List (Str × Addr)) (ws : List Addr), PE (X.blk s H scope (compEnvC scope cs_ Cc X.env) ws) kx tkx)
    (hpv : ∀ (s : Shared) (H : Hp) (Cc : Addr) (cs_ : List (Str × Addr)) (ws : List Addr), PE (X.blk s H scope (compEnvC scope cs_ Cc X.env) ws) vx tvx) (hfs : ∀ x, foldedSetIterable iter X.env x = pure x := by intro _; rfl) :
    PE X (.DictComp kx vx [⟨tg, iter, ifs, 0⟩] scope pos) (tDcG o0 St tw tg_ tts tkx tvx (own.map (·.2))) := by
  refine ⟨fun pins s σ H Q I h => ?_⟩
  rw [arm_eval_DictComp]
  refine zuq hc hN I hi hbk hpg hpt hpk hpv hfs hnew hst h fun Dd Cc s' n_m H' J' q hn f => ⟨n_m, hn, fun h'' sb => ?_⟩
  obtain ⟨f0, f1, g2, g3, f4, f5⟩ := f
  exact ⟨.ref Dd, H', J'.turned (t' := s'.toks) (fun b o hb e => (sb.2 b hb).trans e) f0 f1 g3 f4 f5, rfl, q⟩
/-- the store, at the trees -/
def stD (K : Ml) : Addr → V → V → Hp → (Hp → Prop) → Prop := fun D y z H Q => zqb K dSet (.ref D) y z H Q ∧ ∀ xs, H D ≠ some (.lst xs)
theorem zv3 {Y : Cx} (hu : Y.A.units + 64 < cLine) : StOk Y (stD Y.ml) := by
  intro a pins σ H s y z u r Q E I ry rz ⟨⟨do_, di, dv, G, P, hr, q1, q2, q3, t, k⟩, nl⟩
  cases do_ with
  | nd _ _ =>
    rw [VR] at q1
    exact t.elim
  | ref b =>
    rw [VR] at q1
    cases q1
    cases hG : G a with
    | none =>
      have : False := by simpa [dSet, hG] using t
      exact this.elim
    | some ob =>
      cases ob with
      | rw _ _ _ =>
        have : False := by simpa [dSet, hG] using t
        exact this.elim
      | ins C fs =>
        have : False := by simpa [dSet, hG] using t
        exact this.elim
      | lst ds =>
        obtain ⟨vs, hv, _⟩ := hr a _ hG
        exact (nl vs hv).elim
      | dK kvs =>
        cases ek : di.kK with
        | none =>
          have : False := by simpa [dSet, hG, ek] using t
          exact this.elim
        | some kk =>
          have t : kvs.length < sizeLine ∧ P (up G a (.dK (dput kvs kk dv))) := by simpa [dSet, hG, ek] using t
          obtain ⟨ws, hw, hks, r'⟩ := hr a _ hG
          have e := zty q2 ek
          subst e
          have x : Ext H G (upd H a (.dK (putK ws kk z))) (up G a (.dK (dput kvs kk dv))) := .write hG
          obtain ⟨p1, p2⟩ := zwj kk q3 hks r'
          have hl : ws.length < sizeLine := by
            have := congrArg List.length hks
            rw [List.length_map, List.length_map] at this
            rw [this]; exact t.1
          exact d_dictSet I hw hl ry rz fun s' I' => ⟨_, I', k _ _ t.2 x (hr.write hG ⟨_, upd_same, p1, p2.ext hr x⟩)⟩
      | dN kvs =>
        cases di with
        | nd kd ks =>
          cases kd with
          | tup =>
            cases ek : D.key (.nd .tup ks) with
            | none =>
              have : False := by simpa [dSet, hG, ek] using t
              exact this.elim
            | some kk =>
              have t : (kk.depth ≤ 8 ∧ kvs.length < sizeLine) ∧ P (up G a (.dN (dput kvs kk dv))) := by simpa [dSet, hG, ek] using t
              obtain ⟨⟨h8, hl⟩, t⟩ := t
              have ka := zld q2 ek
              rw [VR] at q2
              obtain ⟨b, vs, rfl, hb, rb⟩ := q2
              cases (show u = Value.ref b from ry)
              obtain ⟨ws, dn, vr⟩ := hr a _ hG
              obtain ⟨xs, es, ep, h1, h2, h3, h4, h5, h6, h7, h9, h10⟩ := DnAt.of I dn
              refine wpAny_dictSet_heap (hsz := by have := congrArg List.length h6; rw [List.length_map] at this; rw [this]; exact h7) (show (nestedKind Y.prog Y.w).room Y.A by show Y.A.units + 8 < cLine; omega) ⟨zep I ka rfl, h8⟩ h4 fun h' hm' hs => ?_
              obtain ⟨H', I', x, r'⟩ := zvx (t' := s.toks + (nestedKind Y.prog Y.w).draws kk) I hr hG h1 h5 h4 h6 h9 h10 vr ka h8 q3 rz hl hm' hs
              exact ⟨H', I', k _ _ t x r'⟩
          | _ =>
            have : False := by simpa [dSet, hG] using t
            exact this.elim
        | _ =>
          have : False := by simpa [dSet, hG] using t
          exact this.elim
  | _ => exact t.elim
/-- {k: v for tg in iter if ..}: a tracked dict -/
def dDc (o : DO) (wi : DTI) (g : DTG) (tt : DTT) (tk tv : DTE) (own : List Nat) : DTE := fun η G Q => wi η G fun ds ok G1 => ∀ p, G1 p = none → ∃ W : Nat → DHp → Prop, W 0 (up G1 p o) ∧ (∀ i G, W i G → ok G ∧ ∀ xs, G p ≠ some (.lst xs)) ∧
  (∀ i d G, ds[i]? = some d → W i G → g d (zc3 η own) G fun η2 G2 => tt η2 G2 fun b G3 => if b = true then tk η2 G3 fun y G4 => tv η2 G4 fun z G5 => (∀ xs, G5 p ≠ some (.lst xs)) ∧ dSet (.ref p) y z G5 (W (i + 1)) else W (i + 1) G3) ∧
  ∀ G, W ds.length G → Q (.ref p) G
def o0N : Addr → HO := fun a => rawO a #[] 0
theorem zwy [Bs] {K : Ml} {o0 : Addr → HO} {o : DO} {wi : DTI} {g : DTG} {tt : DTT} {tk tv : DTE} {own is : List Nat} {σ : L2.St} {H : Hp} {Q : VK} (hsub : ∀ i ∈ is, i ∈ own) (hor : ∀ H G D, H D = some (o0 D) → (D == sysModules) = false → OR K H G D o) (hnl : ∀ H G D ob, OR K H G D ob → (∀ ds, ob ≠ .lst ds) → ∀ xs, H D ≠ some (.lst xs))
    (h : zhp K (dDc o wi g tt tk tv own) σ H Q) : tDcG o0 (stD K) (zp9 K wi) (zqe K is g) (zlx K tt) (zhp K tk) (zhp K tv) own σ H Q := by
  obtain ⟨η, G, P, hs, hr, t, k⟩ := h
  refine ⟨η, G, _, hs, hr, t, fun ds ok G1 J H1 pp x r it => ?_⟩
  intro D hD hsys
  have gD : G1 D = none := r.free hD
  obtain ⟨W, w0, wok, step, fin⟩ := pp D gD
  have xD : Ext H1 G1 (upd H1 D (o0 D)) (up G1 D o) := .new hD
  have rD : HR K (upd H1 D (o0 D)) (up G1 D o) := r.new hD (hor _ _ _ upd_same hsys)
  refine ⟨fun i m H' => m = ds.length - i ∧ i ≤ ds.length ∧ ∃ G', W i G' ∧ Ext H1 G1 H' G' ∧ HR K H' G',
    ⟨ds.length, by simp, Nat.zero_le _, _, w0, xD, rD⟩, ?_⟩
  rintro i m H2 ⟨rfl, hle, G2, w1, x1, r1⟩
  obtain ⟨a1, a2⟩ := it i H2 G2 x1 r1 (wok _ _ w1).1
  by_cases hlt : i < ds.length
  · have e : ds[i]? = some ds[i] := by simp [hlt]
    obtain ⟨go, yl⟩ := a1 _ e
    refine .inr ⟨go, fun H' => ∃ G', W (i + 1) G' ∧ Ext H1 G1 H' G' ∧ HR K H' G', fun H' ⟨G', z⟩ => ⟨_, by omega, rfl, hlt, G', z⟩, fun y H3 hy => ?_⟩
    obtain ⟨x3, r3, v3⟩ := yl y H3 hy
    have s3 : SR K H3 G2 (wipe σ own) (zc3 η own) := ((hs.ext hr x).ext r (x1.trans x3)).wipe own
    refine ⟨_, zc3 η own, G2, _, v3, s3, r3, step i _ G2 e w1, fun η4 G4 σ4 H4 p4 x4 s4 r4 wp => ⟨?_, η4, G4, _, s4, r4, p4, fun b G5 H5 p5 x5 r5 => ?_⟩⟩
    · have hlen : (wipe σ own).length = σ4.length := by
        have := congrArg List.length wp
        rw [wipe_length, wipe_length] at this
        exact this.symm
      rw [zhl (vs := own) wp hsub hlen]
      exact zgb _ _
    · by_cases hb : b = true
      · subst hb
        rw [if_pos rfl] at p5 ⊢
        refine ⟨η4, G5, _, s4.ext r4 x5, r5, p5, fun dk G6 vk H6 p6 x6 r6 q6 => ⟨η4, G6, _, (s4.ext r4 x5).ext r5 x6, r6, p6, fun dy G7 vy H7 ⟨nl7, p7⟩ x7 r7 q7 => ⟨⟨.ref D, dk, dy, G7, _, r7, by rw [VR], q6.ext r6 x7, q7, p7, fun G8 H8 w8 x8 r8 => ⟨G8, w8, (x1.trans ((((x3.trans x4).trans x5).trans x6).trans x7)).trans x8, r8⟩⟩, ?_⟩⟩⟩
        have : ∃ ob, G7 D = some ob := by
          cases e7 : G7 D with
          | none =>
            have : False := by simpa [dSet, e7] using p7
            exact this.elim
          | some ob => exact ⟨ob, rfl⟩
        obtain ⟨ob, e7⟩ := this
        exact hnl _ _ _ ob (r7 D ob e7) fun ds e => nl7 ds (by rw [e7, e])
      · rw [if_neg hb] at p5 ⊢
        exact ⟨G5, p5, x1.trans ((x3.trans x4).trans x5), r5⟩
  · have e : i = ds.length := by omega
    subst e
    exact .inl ⟨a2 (Nat.le_refl _), k (.ref D) G2 (.ref D) H2 (fin _ w1) (x.trans x1) r1 (by rw [VR])⟩
theorem zxw {K : Ml} (H : Hp) (G : DHp) (D : Addr) (ob : DO) (h : OR K H G D ob) (n : ∀ ds, ob ≠ .lst ds) (xs : List V) : H D ≠ some (.lst xs) := fun e => by
  cases ob with
  | lst ds => exact n ds rfl
  | dK ds => obtain ⟨_, e', _⟩ := h; rw [e] at e'; cases e'
  | dN ds => obtain ⟨_, ⟨_, _, _, e', _⟩, _⟩ := h; rw [e] at e'; cases e'
  | ins C fs => obtain ⟨_, _, e', _⟩ := h; rw [e] at e'; cases e'
  | rw es ep kvs => obtain ⟨_, ⟨_, e', _⟩, _⟩ := h; rw [e] at e'; cases e'
theorem zjn [Bs] {kx vx tg iter : Expr} {ifs : List Expr} {scope : Scope} {own : List (Str × Nat)} {is : List Nat} {pos : Pos} {wi : DTI} {g : DTG} {tt : DTT} {tk tv : DTE} (hu : X.A.units + 64 < cLine) (hc : X.calm = true) (hN : X.N.Nodup) (hi : PID X tg iter wi) (ok : BlkOk X.N X.env.scope scope own)
    (hg : ∀ (s : Shared) (H : Hp) (C : Addr) (cl : List (Str × Addr)) (fp : List Addr), PGD (X.blk s H scope (compEnvC scope cl C X.env) fp) tg is g) (ht : ∀ (s : Shared) (H : Hp) (C : Addr) (cl : List (Str × Addr)) (fp : List Addr), PTsD (X.blk s H scope (compEnvC scope cl C X.env) fp) ifs tt)
    (hk : ∀ (s : Shared) (H : Hp) (C : Addr) (cl : List (Str × Addr)) (fp : List Addr), PED (X.blk s H scope (compEnvC scope cl C X.env) fp) kx tk)
    (he : ∀ (s : Shared) (H : Hp) (C : Addr) (cl : List (Str × Addr)) (fp : List Addr), PED (X.blk s H scope (compEnvC scope cl C X.env) fp) vx tv) (hsub : ∀ i ∈ is, i ∈ own.map (·.2) := by decide) (hs : ∀ x, foldedSetIterable iter X.env x = pure x := by intro _; rfl) :
    PED X (.DictComp kx vx [⟨tg, iter, ifs, 0⟩] scope pos) (dDc (.dN []) wi g tt tk tv (own.map (·.2))) :=
  PE.impI (zx3 (o0 := o0N) (St := stD X.ml) hc hN hi ok (fun pins σ H s I => zo4 I) (fun s H cenv fp => zv3 (Y := X.blk s H scope cenv fp) hu) hg ht hk he hs)
    fun _ _ _ _ _ _ h => zwy (o := .dN []) hsub (fun H G D e n => ⟨[], zml e n, .nil⟩) zxw h
end
end DL
namespace DL
open PySem PySem.Spec PyProof.Rows L2
end DL
namespace DL
open PySem PySem.Spec PyProof.Rows L2
def zbj (N : List Str) (ds : List D) : DSt := ds.map some ++ List.replicate (N.length - ds.length) none
theorem SR.st [Bs] {K : Ml} {H : Hp} {G : DHp} {N : List Str} {ds : List D} {vs : List V} (h : VRs K H G ds vs) (x : Ext Bs.H0 Bs.G0 H G) : SR K H G (L2.start N vs) (zbj N ds) := by
  refine ⟨?_, fun i d e => ?_, x⟩
  · unfold L2.start zbj
    rw [List.length_append, List.length_append, List.length_map, List.length_map, List.length_replicate, List.length_replicate, h.length]
  · unfold zbj at e
    by_cases hi : i < ds.length
    · rw [List.getElem?_append_left (by rw [List.length_map]; exact hi), List.getElem?_map] at e
      cases ed : ds[i]? with
      | none => rw [ed] at e; cases e
      | some d' =>
        rw [ed] at e
        simp only [Option.map_some, Option.some.injEq] at e
        subst e
        obtain ⟨v, ev, q⟩ := h.get ed
        refine ⟨v, ?_, q⟩
        unfold L2.start
        rw [List.getElem?_append_left (by rw [List.length_map, h.length]; exact hi), List.getElem?_map, ev]
        rfl
    · rw [List.getElem?_append_right (by rw [List.length_map]; omega), List.getElem?_replicate] at e
      split at e
      · cases e
      · cases e
section
variable {P : Program} {w : World} {K : PySem.W.Frag} {mg : Str → Option Value} {base : Heap}
theorem fn_d {x qual : Str} {st : Stmt} {f : Addr} {fd : FuncData} {N ps : List Str} {k : Nat} {sp : DRn} (F : Fun K x qual st f fd) (S : FnScope N ps (defScope st)) (len : ∀ ds G Q, sp ds G Q → ds.length = ps.length) {T : DTS}
    (hp : ∀ [Bs] (cdv : Value) (A : Around) (outer : List Env) (s : Shared) (H : Hp) (E : XK), Room k (A.deeper (envOfC qual (defScope st) s.heap.objs.size f cdv)) → PSsD (cxOf CX0 P w K mg base N qual (defScope st) f cdv A outer s H E).nox (defBody st) T)
    (hs : ∀ ds G Q, sp ds G Q → T { nx := fun _ G' => Q .non G', rt := Q } (zbj N ds) G) : FnD P w K mg base (k + 1) f fd ps sp := by
  refine F.ok S (fun vs H Q E h => ?_) (fun cdv A outer s H vs Q E hr h => ?_)
  · obtain ⟨ds, G, Q', q, _, t, _⟩ := h
    rw [q.length]
    exact len _ _ _ t
  · obtain ⟨ds, G, Q', q, hr', t, k'⟩ := h
    letI : Bs := ⟨H, G⟩
    refine ⟨zrz ⟨K, w⟩ T, hp cdv A outer s H E hr, zbj N ds, G, _, .st q (.refl _ _), hr', hs ds G Q' t, ?_⟩
    exact ⟨fun η G' σ H' p x _ r => k' _ _ _ _ p x r (by rw [VR]), fun d G' v H' p x r q => k' _ _ _ _ p x r q, fun _ _ _ _ p => p.elim, fun _ _ _ _ p => p.elim⟩
/-- a promise: the arguments, then what the body leads to -/
def ztv : DRn := d1 fun d G Q => ∃ ns : List Int, d = .nd .scr (ns.map .int) ∧ ns.length ≤ 63 ∧ (∀ a, G a = none) ∧ ∀ G', Q (.bl true) G'
end
theorem Room.u65 {k : Nat} {A : Around} (r : Room k A) : A.units + 65 < cLine := by have := r.un; omega
end DL
namespace DL
open PySem PySem.Spec PyProof.Rows L2
def zsp (d : D) (G : DHp) : Option (List D) := match dicN d G with
  | some kvs => some (kvs.map fun p => nkD p.1)
  | none => match dicK d G with
    | some kvs => some (kvs.map fun p => kD p.1)
    | none => none
section
variable {X : Cx}
mutual
theorem zou {pins : List (Addr × Obj)} {σ : L2.St} {H : Hp} {s : Shared} (I : Inv X pins σ H s) : ∀ {k : NestedKey} {v : V} {u : Value}, zcz X.ml H k v → RelV v u → Reads s.heap u (py (nkD k)) []
  | .none, _, _, h, r => by rw [zcz] at h; subst h; cases (show _ = Value.none from r); rw [nkD, py]; exact .none
  | .num i, _, _, h, r => by rw [zcz] at h; subst h; obtain ⟨t, rfl⟩ := r; rw [nkD, py]; exact .int i t
  | .text x, _, _, h, r => by rw [zcz] at h; subst h; obtain ⟨t, rfl⟩ := r; rw [nkD, py]; exact .str x t
  | .tup ks, _, _, h, r => by
    rw [zcz] at h
    obtain ⟨a, vs, rfl, q, t⟩ := h
    cases r
    obtain ⟨its, rv, tt, hz⟩ := I.tuple q
    obtain ⟨o, ho, hc, n, hd⟩ := tt
    rw [nkD, py]
    exact .tuple ho hc hd (by simpa using keys_reads I t rv)
theorem keys_reads {pins : List (Addr × Obj)} {σ : L2.St} {H : Hp} {s : Shared} (I : Inv X pins σ H s) : ∀ {k : List NestedKey} {v : List V} {u : List Value}, KeysAt X.ml H k v → Vals v u → ReadsAll s.heap u (pys (nkDs k)) []
  | [], _, _, h, r => by rw [KeysAt] at h; subst h; cases r; rw [nkDs, pys]; exact .nil
  | k :: ks, _, _, h, r => by
    rw [KeysAt] at h
    obtain ⟨v, vs, rfl, q, t⟩ := h
    cases r with
    | cons r1 r2 =>
      rw [nkDs, pys]
      exact .cons (as := []) (bs := []) (zou I q r1) (keys_reads I t r2)
end
/-- what is known of the keys -/
theorem zu4 {pins : List (Addr × Obj)} {σ : L2.St} {H : Hp} {G : DHp} {s : Shared} {d : D} {v : V} {ks : List D} (I : Inv X pins σ H s) (hr : HR X.ml H G) (q : VR X.ml H G d v) (e : zsp d G = some ks) :
    ∃ a es ep vs, v = .ref a ∧ (a == sysModules) = false ∧ s.heap.DictRaw a es ep ∧ es.size ≤ sizeLine ∧ Vals vs (es.toList.map (·.key)) ∧ VRs X.ml H G ks vs ∧ PySem.W.EachIs (fun u d => Reads s.heap u (py d) []) (es.toList.map (·.key)) ks := by
  unfold zsp at e
  split at e
  · rename_i kvs e1
    cases e
    obtain ⟨a, ws, rfl, dn, vr⟩ := zkt hr q e1
    obtain ⟨xs, es, ep, h1, h2, h3, h4, h5, h6, h7, h8, h9⟩ := DnAt.of I dn
    have hm : es.toList.map (·.key) = xs.map fun x => Value.ref x.2.1 := by
      rw [h3, List.map_map]
      exact List.map_congr_left fun x _ => rfl
    have hk : kvs.map (fun p => nkD p.1) = xs.map fun x => nkD x.1 := by
      rw [show (fun p : NestedKey × D => nkD p.1) = nkD ∘ (·.1) from rfl, ← List.map_map, ← h6, List.map_map]; rfl
    have hsz : es.size ≤ sizeLine := by
      have := congrArg List.length h3
      rw [List.length_map, Array.length_toList] at this
      have h62 := congrArg List.length h6
      rw [List.length_map] at h62
      omega
    refine ⟨a, es, ep, xs.map fun x => V.ref x.2.1, rfl, h5, h2, hsz, ?_, ?_, ?_⟩
    · rw [hm]
      have : ∀ zs : List (NestedKey × Addr × Value), Vals (zs.map fun x => V.ref x.2.1) (zs.map fun x => Value.ref x.2.1) := fun zs => by
        induction zs with
        | nil => exact .nil
        | cons z zs ih => exact .cons rfl ih
      exact this xs
    · rw [hk]
      have : ∀ zs : List (NestedKey × Addr × Value), (∀ x ∈ zs, zcz X.ml H x.1 (.ref x.2.1) ∧ x.1.depth ≤ 8) → VRs X.ml H G (zs.map fun x => nkD x.1) (zs.map fun z => V.ref z.2.1) := by
        intro zs
        induction zs with
        | nil => intro _; exact .nil
        | cons z zs ih => intro h; exact .cons (zv8 (h z (by simp)).1) (ih fun x hx => h x (by simp [hx]))
      exact this xs h8
    · rw [hk, hm]
      have : ∀ zs : List (NestedKey × Addr × Value), (∀ x ∈ zs, zcz X.ml H x.1 (.ref x.2.1) ∧ x.1.depth ≤ 8) → PySem.W.EachIs (fun u d => Reads s.heap u (py d) []) (zs.map fun x => Value.ref x.2.1) (zs.map fun x => nkD x.1) := by
        intro zs
        induction zs with
        | nil => intro _; exact .nil
        | cons z zs ih => intro h; exact .cons (zou I (h z (by simp)).1 rfl) (ih fun x hx => h x (by simp [hx]))
      exact this xs h8
  · split at e
    · rename_i kvs e1
      cases e
      obtain ⟨a, ws, rfl, rd, hks, vr⟩ := zko hr q e1
      obtain ⟨z, hd, vs, rel, dd⟩ := dk_rd I.hok rd
      obtain ⟨es, ep, raw, hsz, hat⟩ := dd.raw
      have hl : ws.length = vs.length := rel.length
      have hk : kvs.map (fun p => kD p.1) = (ws.map (·.1)).map kD := by
        rw [hks, List.map_map]; rfl
      have hkey : ws.map (·.1) = vs.map (·.1) := rel.keys
      have each : ∀ (F : Value → Key → Prop), (∀ k u, (mixKind X.prog X.w).is k u = true → F u k) → PySem.W.EachIs F (es.toList.map (·.key)) (vs.map (·.1)) := fun F hF => by
        have go : ∀ (l : List DictEntry) (m : List (Key × Value)), l.length = m.length → (∀ i (hi : i < l.length) k v, m[i]? = some (k, v) → (mixKind X.prog X.w).is k l[i].key = true) → PySem.W.EachIs F (l.map (·.key)) (m.map (·.1)) := by
          intro l
          induction l with
          | nil =>
            intro m h1 h2
            cases m with
            | nil => exact .nil
            | cons _ _ => simp at h1
          | cons x l ih =>
            intro m h1 h2
            cases m with
            | nil => simp at h1
            | cons y m =>
              obtain ⟨k, v⟩ := y
              refine .cons (hF _ _ (h2 0 (by simp) k v rfl)) (ih m (by simpa using h1) fun i hi k' v' e => ?_)
              have := h2 (i + 1) (by simpa using hi) k' v' (by simpa using e)
              simpa using this
        refine go _ _ (by rw [Array.length_toList]; exact hsz) fun i hi k v e => ?_
        have := (hat i (by simpa using hi) k v e).1
        simpa using this
      refine ⟨a, es, ep, (ws.map (·.1)).map kV, rfl, hd, raw, by rw [hsz, ← hl]; exact z, ?_, ?_, ?_⟩
      · rw [hkey]
        have := each (fun u k => RelV (kV k) u) fun k u h => zw3 h
        have go : ∀ {us : List Value} {ks : List Key}, PySem.W.EachIs (fun u k => RelV (kV k) u) us ks → Vals (ks.map kV) us := by
          intro us ks h
          induction h with
          | nil => exact .nil
          | cons r _ ih => exact .cons r ih
        exact go this
      · rw [hk]
        exact zvw _
      · rw [hk, hkey]
        have := each (fun u k => Reads s.heap u (py (kD k)) []) fun k u h => by
          rcases keyIs_shape (show keyIs k u = true from h) with ⟨i, t, rfl, rfl⟩ | ⟨x, t, rfl, rfl⟩
          · show Reads _ _ (py (.int i)) []; rw [py]; exact .int i t
          · show Reads _ _ (py (.str x)) []; rw [py]; exact .str x t
        have go : ∀ {us : List Value} {ks : List Key}, PySem.W.EachIs (fun u k => Reads s.heap u (py (kD k)) []) us ks → PySem.W.EachIs (fun u d => Reads s.heap u (py d) []) us (ks.map kD) := by
          intro us ks h
          induction h with
          | nil => exact .nil
          | cons r _ ih => exact .cons r ih
        exact go this
    · cases e
theorem zr8 {es : Array DictEntry} {acc : Array Value} (h : ItemsOf (fun i v => ∃ hi : i < es.size, v = es[i].key) acc es.size) : acc.toList = es.toList.map (·.key) := by
  refine List.ext_getElem? fun i => ?_
  rw [Array.getElem?_toList, List.getElem?_map, Array.getElem?_toList]
  by_cases hi : i < es.size
  · have hi' : i < acc.size := by rw [h.1]; exact hi
    obtain ⟨_, e⟩ := h.2 i acc[i] (Array.getElem?_eq_getElem hi')
    rw [Array.getElem?_eq_getElem hi', Array.getElem?_eq_getElem hi, e]
    rfl
  · rw [Array.getElem?_eq_none (by rw [h.1]; omega), Array.getElem?_eq_none (by omega)]
    rfl
/-- list(d): tracked -/
def zqu : DRn := d1 fun d G Q => match zsp d G with
  | some ks => ∀ p, G p = none → Q (.ref p) (up G p (.lst ks))
  | none => False
theorem zub (hc : X.calm = true) : zfj X (.type "list") zqu := zgy fun pins s σ H G x v d P I rx hr q1 t => by
  split at t
  · rename_i ks e
    obtain ⟨a, es, ep, vs, rfl, hsys, raw, hsz, rv, qs, _⟩ := zu4 I hr q1 e
    cases (show v = Value.ref a from rx)
    refine PySem.W.kdl_call (PySem.KdlSrc.rawDict hsys) (I.ok.hd hc) raw hsz fun h' tk acc c hk hS hacc => ?_
    have hp : H s.heap.objs.size = none := I.hok.fresh (Nat.le_refl _)
    have e2 := zr8 hacc
    have x2 : Ext H G (upd H s.heap.objs.size (.lst vs)) (up G s.heap.objs.size (.lst ks)) := .new hp
    have I' : Inv X pins σ (upd H s.heap.objs.size (.lst vs)) { s with heap := h', toks := tk } :=
      I.laid hk (Nat.le_refl _) ⟨by rw [rv.length, List.length_map, Array.length_toList]; exact hsz, acc.toList, c, by rw [e2]; exact rv, by rw [Array.toArray_toList]; exact hS⟩
    exact ⟨.ref _, .ref _, _, _, I', rfl, t _ (hr.free hp), x2, hr.new hp ⟨vs, upd_same, qs.ext hr x2⟩, by rw [VR]⟩
  · exact t.elim
end
end DL
namespace DL
open PySem PySem.Spec PyProof.Rows L2
abbrev dSub : DR2 := i2 (fun _ _ => True) fun i j => .int (i - j)
abbrev dMul : DR2 := i2 CMul fun i j => .int (i * j)
abbrev zs6 : DR2 := i2 CDiv fun i j => .int (i / j)
abbrev dMod : DR2 := i2 (fun _ j => 0 < j) fun i j => .int (i % j)
abbrev dPow : DR2 := i2 CPow fun i j => .int (i ^ j.toNat)
def e2 (p : Int × Int) : D := .nd .tup [.int p.1, .int p.2]
def e3 (p : Int × Int × Int) : D := .nd .tup [.int p.1, .int p.2.1, .int p.2.2]
def eL {α : Type} (f : α → D) (xs : List α) : D := .nd .lst (xs.map f)
def eT {α : Type} (f : α → D) (xs : List α) : D := .nd .tup (xs.map f)
mutual
def zah : D → Bool
  | .non => true
  | .int _ => true
  | .nd .tup ds => cleans ds
  | .nd .lst ds => cleans ds
  | _ => false
def cleans : List D → Bool
  | [] => true
  | d :: ds => zah d && cleans ds
end
mutual
theorem zdq : ∀ {d : D}, zah d = true → zb2 d = true
  | .non, _ => rfl
  | .int _, _ => rfl
  | .nd .tup ds, h => by rw [zb2]; rw [zah] at h; exact cleans_plain h
  | .nd .lst ds, h => by rw [zb2]; rw [zah] at h; exact cleans_plain h
  | .bl _, h => by simp [zah] at h
  | .str _, h => by simp [zah] at h
  | .ty _, h => by simp [zah] at h
  | .ref _, h => by simp [zah] at h
  | .nd .scr _, h => by simp [zah] at h
  | .nd (.ins _ _) _, h => by simp [zah] at h
  | .nd (.dK _) _, h => by simp [zah] at h
  | .nd (.dN _) _, h => by simp [zah] at h
theorem cleans_plain : ∀ {ds : List D}, cleans ds = true → plainDs ds = true
  | [], _ => rfl
  | d :: ds, h => by
    rw [cleans, Bool.and_eq_true] at h
    rw [plainDs, zdq h.1, cleans_plain h.2]; rfl
end
mutual
theorem zph : ∀ {d : D}, zah d = true → PyData.canLay0 (py d) = true
  | .non, _ => by rw [py, PyData.canLay0]
  | .int _, _ => by rw [py, PyData.canLay0]
  | .nd .tup ds, h => by rw [py, PyData.canLay0]; rw [zah] at h; exact cleans_lay h
  | .nd .lst ds, h => by rw [py, PyData.canLay0]; rw [zah] at h; exact cleans_lay h
  | .bl _, h => by simp [zah] at h
  | .str _, h => by simp [zah] at h
  | .ty _, h => by simp [zah] at h
  | .ref _, h => by simp [zah] at h
  | .nd .scr _, h => by simp [zah] at h
  | .nd (.ins _ _) _, h => by simp [zah] at h
  | .nd (.dK _) _, h => by simp [zah] at h
  | .nd (.dN _) _, h => by simp [zah] at h
theorem cleans_lay : ∀ {ds : List D}, cleans ds = true → PyData.canLayAll0 (pys ds) = true
  | [], _ => by rw [pys, PyData.canLayAll0]
  | d :: ds, h => by
    rw [cleans, Bool.and_eq_true] at h
    rw [pys, PyData.canLayAll0, zph h.1, cleans_lay h.2]; rfl
end
mutual
theorem zio : ∀ {d e : D}, zah d = true → zah e = true → (PyData.eqv (py d) (py e) = true ↔ d = e)
  | .non, .non, _, _ => by simp [py, PyData.eqv]
  | .non, .int _, _, _ => by simp [py, PyData.eqv]
  | .non, .nd .tup _, _, _ => by simp [py, PyData.eqv]
  | .non, .nd .lst _, _, _ => by simp [py, PyData.eqv]
  | .int _, .non, _, _ => by simp [py, PyData.eqv]
  | .int i, .int j, _, _ => by simp [py, PyData.eqv]
  | .int _, .nd .tup _, _, _ => by simp [py, PyData.eqv]
  | .int _, .nd .lst _, _, _ => by simp [py, PyData.eqv]
  | .nd .tup _, .non, _, _ => by simp [py, PyData.eqv]
  | .nd .tup _, .int _, _, _ => by simp [py, PyData.eqv]
  | .nd .tup ds, .nd .tup es, h1, h2 => by
    rw [zah] at h1 h2
    rw [py, py, PyData.eqv, cleans_eq h1 h2]
    simp
  | .nd .tup _, .nd .lst _, _, _ => by simp [py, PyData.eqv]
  | .nd .lst _, .non, _, _ => by simp [py, PyData.eqv]
  | .nd .lst _, .int _, _, _ => by simp [py, PyData.eqv]
  | .nd .lst _, .nd .tup _, _, _ => by simp [py, PyData.eqv]
  | .nd .lst ds, .nd .lst es, h1, h2 => by
    rw [zah] at h1 h2
    rw [py, py, PyData.eqv, cleans_eq h1 h2]
    simp
  | .bl _, _, h, _ => by simp [zah] at h
  | .str _, _, h, _ => by simp [zah] at h
  | .ty _, _, h, _ => by simp [zah] at h
  | .ref _, _, h, _ => by simp [zah] at h
  | .nd .scr _, _, h, _ => by simp [zah] at h
  | .nd (.ins _ _) _, _, h, _ => by simp [zah] at h
  | .nd (.dK _) _, _, h, _ => by simp [zah] at h
  | .nd (.dN _) _, _, h, _ => by simp [zah] at h
  | _, .bl _, _, h => by simp [zah] at h
  | _, .str _, _, h => by simp [zah] at h
  | _, .ty _, _, h => by simp [zah] at h
  | _, .ref _, _, h => by simp [zah] at h
  | _, .nd .scr _, _, h => by simp [zah] at h
  | _, .nd (.ins _ _) _, _, h => by simp [zah] at h
  | _, .nd (.dK _) _, _, h => by simp [zah] at h
  | _, .nd (.dN _) _, _, h => by simp [zah] at h
theorem cleans_eq : ∀ {ds es : List D}, cleans ds = true → cleans es = true → (PyData.eqvAll (pys ds) (pys es) = true ↔ ds = es)
  | [], [], _, _ => by simp [pys, PyData.eqvAll]
  | [], _ :: _, _, _ => by simp [pys, PyData.eqvAll]
  | _ :: _, [], _, _ => by simp [pys, PyData.eqvAll]
  | d :: ds, e :: es, h1, h2 => by
    rw [cleans, Bool.and_eq_true] at h1 h2
    rw [pys, pys, PyData.eqvAll, Bool.and_eq_true, zio h1.1 h2.1, cleans_eq h1.2 h2.2]
    simp
end
theorem zmr : ∀ ds : List D, cleans ds = ds.all zah
  | [] => rfl
  | d :: ds => by rw [cleans, zmr ds]; rfl
theorem zcb {α : Type} {f : α → D} (h : ∀ a, zah (f a) = true) (xs : List α) : cleans (xs.map f) = true := by
  rw [zmr, List.all_map, List.all_eq_true]
  intro x _; exact h x
theorem zgt {B : Nat} : ∀ {ds : List D}, (∀ d ∈ ds, (py d).depth ≤ B) → PyData.depthAll (pys ds) ≤ B
  | [], _ => by rw [pys, PyData.depthAll]; exact Nat.zero_le _
  | d :: ds, h => by
    rw [pys, PyData.depthAll]
    have h1 := h d (by simp)
    have h2 := zgt (B := B) (ds := ds) fun e he => h e (by simp [he])
    omega
theorem zkh {B : Nat} {ds : List D} (h : ∀ d ∈ ds, (py d).depth ≤ B) : (py (.nd .lst ds)).depth ≤ B + 1 := by
  rw [py, PyData.depth]; have := zgt h; omega
theorem zli {B : Nat} {ds : List D} (h : ∀ d ∈ ds, (py d).depth ≤ B) : (py (.nd .tup ds)).depth ≤ B + 1 := by
  rw [py, PyData.depth]; have := zgt h; omega
theorem zek (i : Int) : (py (.int i)).depth = 0 := by rw [py, PyData.depth]
theorem zga {d : D} (h : zah d = true) (h2 : (py d).depth ≤ 64) : SeqAt.shaped (py d) = true := by
  unfold SeqAt.shaped
  rw [zph h, decide_eq_true h2]; rfl
theorem zbp (p : Int × Int) : zah (e2 p) = true := rfl
theorem zkb (p : Int × Int × Int) : zah (e3 p) = true := rfl
theorem zrk {α : Type} {f : α → D} (h : ∀ a, zah (f a) = true) (xs : List α) : zah (eL f xs) = true := by
  unfold eL; rw [zah]; exact zcb h xs
theorem zni {α : Type} {f : α → D} (h : ∀ a, zah (f a) = true) (xs : List α) : zah (eT f xs) = true := by
  unfold eT; rw [zah]; exact zcb h xs
theorem zcd (p : Int × Int) : (py (e2 p)).depth ≤ 1 := zli (B := 0) fun d hd => by
  simp at hd; rcases hd with rfl | rfl <;> exact Nat.le_of_eq (zek _)
theorem zj6 (p : Int × Int × Int) : (py (e3 p)).depth ≤ 1 := zli (B := 0) fun d hd => by
  simp at hd; rcases hd with rfl | rfl | rfl <;> exact Nat.le_of_eq (zek _)
theorem zrc {α : Type} {f : α → D} {B : Nat} (h : ∀ a, (py (f a)).depth ≤ B) (xs : List α) : (py (eL f xs)).depth ≤ B + 1 := zkh fun d hd => by
  obtain ⟨a, _, rfl⟩ := List.mem_map.mp hd; exact h a
theorem zne {α : Type} {f : α → D} {B : Nat} (h : ∀ a, (py (f a)).depth ≤ B) (xs : List α) : (py (eT f xs)).depth ≤ B + 1 := zli fun d hd => by
  obtain ⟨a, _, rfl⟩ := List.mem_map.mp hd; exact h a
theorem zon {a b : Int × Int} : e2 a = e2 b ↔ a = b := by
  constructor
  · intro h; obtain ⟨a1, a2⟩ := a; obtain ⟨b1, b2⟩ := b
    simp [e2] at h; simp [h]
  · intro h; rw [h]
theorem zsz {α : Type} {f : α → D} (h : ∀ {a b}, f a = f b ↔ a = b) : ∀ {xs ys : List α}, xs.map f = ys.map f ↔ xs = ys
  | [], [] => by simp
  | [], _ :: _ => by simp
  | _ :: _, [] => by simp
  | x :: xs, y :: ys => by simp [h, zsz h (xs := xs) (ys := ys)]
theorem zv2 {α : Type} {f : α → D} (h : ∀ {a b}, f a = f b ↔ a = b) {xs ys : List α} : eT f xs = eT f ys ↔ xs = ys := by
  unfold eT
  constructor
  · intro e; exact (zsz h).mp (D.nd.inj e).2
  · intro e; rw [e]
theorem zvy {d e : D} {G : DHp} {Q : DVK} (h1 : zah (der d G) = true) (h2 : zah (der e G) = true) (d1 : (py (der d G)).depth ≤ 64) (d2 : (py (der e G)).depth ≤ 64) (b : Bool) (hb : b = true ↔ der d G = der e G) (h : Q (.bl b) G) : dEq d e G Q := by
  refine ⟨⟨zdq h1, zdq h2, zga h1 d1, zga h2 d2⟩, ?_⟩
  have : PyData.eqv (py (der d G)) (py (der e G)) = b := by
    rw [Bool.eq_iff_iff, zio h1 h2]; exact hb.symm
  rw [this]; exact h
theorem zor {d e : D} {G : DHp} {Q : DVK} (h1 : zah (der d G) = true) (h2 : zah (der e G) = true) (d1 : (py (der d G)).depth ≤ 64) (d2 : (py (der e G)).depth ≤ 64) (b : Bool) (hb : b = true ↔ der d G ≠ der e G) (h : Q (.bl b) G) : dNe d e G Q := by
  refine ⟨⟨zdq h1, zdq h2, zga h1 d1, zga h2 d2⟩, ?_⟩
  have : (!PyData.eqv (py (der d G)) (py (der e G))) = b := by
    rw [Bool.eq_iff_iff, Bool.not_eq_true', hb, ← Bool.not_eq_true, zio h1 h2]
  rw [this]; exact h
theorem zo1 {x : D} (hx : zah x = true) : ∀ {ds : List D}, cleans ds = true → (((pys ds).any fun z => PyData.eqv z (py x)) = true ↔ x ∈ ds)
  | [], _ => by simp [pys]
  | d :: ds, h => by
    rw [cleans, Bool.and_eq_true] at h
    rw [pys, List.any_cons, Bool.or_eq_true, zio h.1 hx, zo1 hx h.2, List.mem_cons]
    constructor
    · rintro (h | h)
      · exact .inl h.symm
      · exact .inr h
    · rintro (h | h)
      · exact .inl h.symm
      · exact .inr h
theorem zwi {neg : Bool} {x y : D} {ds : List D} {G : DHp} {Q : DVK} (hy : der y G = .nd .lst ds ∨ der y G = .nd .tup ds) (hx : zah x = true) (hs : cleans ds = true) (dx : (py x).depth ≤ 64) (b : Bool) (hb : b = true ↔ x ∈ ds) (h : Q (.bl (neg != b)) G) : dIn neg x y G Q := by
  have e : ((pys ds).any fun z => PyData.eqv z (py x)) = b := by rw [Bool.eq_iff_iff, zo1 hx hs]; exact hb.symm
  unfold dIn
  rcases hy with hy | hy
  · rw [hy]
    exact ⟨⟨zdq hx, cleans_plain hs, zga hx dx, cleans_lay hs⟩, by rw [e]; exact h⟩
  · rw [hy]
    exact ⟨⟨zdq hx, cleans_plain hs, zga hx dx, cleans_lay hs⟩, by rw [e]; exact h⟩
/-- order of ints -/
theorem zxc {g : PyData → PyData → Bool} {i j : Int} {G : DHp} {Q : DVK} (h : Q (.bl (g (.int i) (.int j))) G) : dOrd g (.int i) (.int j) G Q :=
  ⟨⟨rfl, rfl, by rw [py, py]; simp [PySem.W.alike], by rw [py]; exact (nomatch ·), by rw [zek]; exact Nat.zero_le _⟩, by rw [py, py]; exact h⟩
theorem zuf {i j : Int} : PySem.W.dataLt (.int i) (.int j) = decide (i < j) := PySem.W.dataLt_int i j
theorem zj9 {g : PyData → PyData → Bool} {i j : Int} {G : DHp} {Q : DVK} : dOrd g (.int i) (.int j) G Q = Q (.bl (g (.int i) (.int j))) G := propext ⟨fun h => by
  have h := h.2
  rwa [py, py] at h, zxc⟩
theorem zmj {i j : Int} : (!decide (j < i)) = decide (i ≤ j) := by rw [← decide_not]; exact decide_eq_decide.mpr (by omega)
theorem zix {i j : Int} {G : DHp} {Q : DVK} : dLt (.int i) (.int j) G Q = Q (.bl (decide (i < j))) G := by
  show dOrd _ _ _ _ _ = _
  rw [zj9, zuf]
theorem zir {i j : Int} {G : DHp} {Q : DVK} : dLe (.int i) (.int j) G Q = Q (.bl (decide (i ≤ j))) G := by
  show dOrd _ _ _ _ _ = _
  rw [zj9]
  show Q (.bl (!PySem.W.dataLt (.int j) (.int i))) G = _
  rw [zuf, zmj]
theorem zih {i j : Int} {G : DHp} {Q : DVK} : dGt (.int i) (.int j) G Q = Q (.bl (decide (j < i))) G := by
  show dOrd _ _ _ _ _ = _
  rw [zj9]
  show Q (.bl (PySem.W.dataLt (.int j) (.int i))) G = _
  rw [zuf]
theorem zib {i j : Int} {G : DHp} {Q : DVK} : dGe (.int i) (.int j) G Q = Q (.bl (decide (j ≤ i))) G := by
  show dOrd _ _ _ _ _ = _
  rw [zj9]
  show Q (.bl (!PySem.W.dataLt (.int i) (.int j))) G = _
  rw [zuf, zmj]
theorem zgv {i j : Int} {G : DHp} {Q : DVK} : dEq (.int i) (.int j) G Q = Q (.bl (decide (i = j))) G := propext ⟨fun h => by
  have h := h.2
  rwa [show PyData.eqv (py (der (.int i) G)) (py (der (.int j) G)) = decide (i = j) by
    show PyData.eqv (py (.int i)) (py (.int j)) = _
    rw [py, py, PyData.eqv]; rfl] at h, fun h => zvy rfl rfl (by show (py (.int i)).depth ≤ 64; rw [zek]; decide) (by show (py (.int j)).depth ≤ 64; rw [zek]; decide) _ (by
    show _ ↔ D.int i = D.int j
    simp) h⟩
theorem zgi {i j : Int} {G : DHp} {Q : DVK} : dNe (.int i) (.int j) G Q = Q (.bl (!decide (i = j))) G := propext ⟨fun h => by
  have h := h.2
  rwa [show PyData.eqv (py (der (.int i) G)) (py (der (.int j) G)) = decide (i = j) by
    show PyData.eqv (py (.int i)) (py (.int j)) = _
    rw [py, py, PyData.eqv]; rfl] at h, fun h => zor rfl rfl (by show (py (.int i)).depth ≤ 64; rw [zek]; decide) (by show (py (.int j)).depth ≤ 64; rw [zek]; decide) _ (by
    show _ ↔ D.int i ≠ D.int j
    simp) h⟩
theorem ze1 {i j : Int} {G : DHp} {Q : DVK} : dAdd (.int i) (.int j) G Q = Q (.int (i + j)) G := rfl
theorem zd5 {i j : Int} {G : DHp} {Q : DVK} : zjw (.int i) (.int j) G Q = Q (.int (i + j)) G := rfl
theorem zcn {α : Type} {f : α → D} {xs : List α} {i : Nat} {d : D} (h : (xs.map f)[i]? = some d) : ∃ x, xs[i]? = some x ∧ d = f x := by
  rw [List.getElem?_map] at h
  cases e : xs[i]? with
  | none => rw [e] at h; cases h
  | some x => rw [e] at h; exact ⟨x, rfl, (Option.some.inj h).symm⟩
end DL
namespace DL
open PySem PySem.Spec PyProof.Rows L2
theorem zax {n : Nat} (h : n ≤ 1000000) : n < sizeLine := by rw [sizeLine_eq]; omega
theorem zg3 {xs : List D} {p : Addr} {y : D} {G : DHp} {Q : DVK} (e : G p = some (.lst xs)) (hl : xs.length < sizeLine) (q : Q .non (up G p (.lst (xs ++ [y])))) : tyD "list" (.ref p) G ∧ zhe [.ref p, y] G Q := by
  refine ⟨by simp only [tyD, e], ?_⟩
  show onL (.ref p) G fun a ds => ds.length < sizeLine ∧ Q .non (up G a (.lst (ds ++ [y])))
  exact zwb e ⟨hl, q⟩
theorem zf8 (lo hi : Int) : (zgz lo hi).length = (hi - lo).toNat := by
  unfold zgz; rw [List.length_map, List.length_range]
theorem up3 {G : DHp} {a p : Addr} {x x' y : DO} (h : a ≠ p) : up (up (up G a x) p y) a x' = up (up G a x') p y := by
  rw [zgr (G := up G a x) (a := p) (b := a) (Ne.symm h), zfl]
theorem zkp {ds : List D} {i : Int} {d : D} {Q : D → Prop} (h0 : 0 ≤ i) (e : ds[i.toNat]? = some d) (q : Q d) : atD ds (.int i) Q := by
  have h : atI ds i = some d := by
    obtain ⟨k, rfl⟩ := Int.eq_ofNat_of_zero_le h0
    exact atI_nat (by simpa using e)
  show (match atI ds i with | some d => Q d | none => False)
  rw [h]; exact q
section
variable {α β κ : Type} [DecidableEq α] [DecidableEq κ]
def aget (kvs : List (α × β)) (a : α) : Option β := (kvs.find? fun p => decide (p.1 = a)).map (·.2)
def aput (kvs : List (α × β)) (a : α) (b : β) : List (α × β) := if kvs.any fun p => decide (p.1 = a) then kvs.map fun p => if p.1 = a then (p.1, b) else p else kvs ++ [(a, b)]
def enc (k : α → κ) (f : β → D) (kvs : List (α × β)) : List (κ × D) := kvs.map fun p => (k p.1, f p.2)
theorem znr {k : α → κ} {f : β → D} (hk : ∀ {a b}, k a = k b ↔ a = b) (kvs : List (α × β)) (a : α) : dval (enc k f kvs) (k a) = (aget kvs a).map f := by
  unfold dval aget enc
  induction kvs with
  | nil => rfl
  | cons p kvs ih =>
    by_cases e : p.1 = a
    · simp [e]
    · simpa [e, hk] using ih
theorem zwm {k : α → κ} {f : β → D} (hk : ∀ {a b}, k a = k b ↔ a = b) (kvs : List (α × β)) (a : α) : ((enc k f kvs).any fun p => decide (p.1 = k a)) = kvs.any fun p => decide (p.1 = a) := by
  unfold enc
  rw [List.any_map]
  congr 1
  funext p
  exact decide_eq_decide.mpr hk
theorem zu5 {k : α → κ} {f : β → D} (hk : ∀ {a b}, k a = k b ↔ a = b) (kvs : List (α × β)) (a : α) (b : β) : dput (enc k f kvs) (k a) (f b) = enc k f (aput kvs a b) := by
  unfold dput aput
  rw [zwm hk]
  split
  · unfold enc
    rw [List.map_map, List.map_map]
    refine List.map_congr_left fun p _ => ?_
    by_cases e : p.1 = a
    · simp [e]
    · simp [e, hk]
  · unfold enc; simp
theorem zsq (kvs : List (α × β)) (a c : α) (b : β) : aget (aput kvs a b) c = if c = a then some b else aget kvs c := by
  have h1 : ∀ kvs : List (α × β), aget (kvs.map fun p => if p.1 = a then (p.1, b) else p) c = if c = a then (aget kvs c).map fun _ => b else aget kvs c := by
    intro kvs
    induction kvs with
    | nil => unfold aget; split <;> rfl
    | cons p kvs ih =>
      unfold aget at ih ⊢
      by_cases e : p.1 = a
      · by_cases e2 : c = a
        · subst e2; simp [e]
        · have : ¬ a = c := fun h => e2 h.symm
          simp [e, this, e2] at ih ⊢
          exact ih
      · by_cases e3 : p.1 = c
        · have : ¬ c = a := fun h => e (e3.trans h)
          simp [e, e3, this]
        · simp [e, e3] at ih ⊢
          exact ih
  have h2 : ∀ kvs : List (α × β), (kvs.any fun p => decide (p.1 = a)) = (aget kvs a).isSome := by
    intro kvs
    induction kvs with
    | nil => rfl
    | cons p kvs ih =>
      unfold aget at ih ⊢
      by_cases e : p.1 = a
      · simp [e]
      · simp only [List.any_cons, e, decide_false, Bool.false_or, List.find?_cons] ; exact ih
  unfold aput
  rw [h2]
  split
  · rename_i h
    rw [h1]
    by_cases e : c = a
    · subst e
      rw [if_pos rfl, if_pos rfl]
      obtain ⟨x, hx⟩ := Option.isSome_iff_exists.mp h
      rw [hx]; rfl
    · rw [if_neg e, if_neg e]
  · rename_i h
    have hn : aget kvs a = none := by simpa using h
    unfold aget at hn ⊢
    rw [List.find?_append]
    by_cases e : c = a
    · subst e
      have : kvs.find? (fun p => decide (p.1 = c)) = none := by simpa using hn
      simp [this]
    · have : ¬ a = c := fun h => e h.symm
      simp [e, this]
theorem zpf (kvs : List (α × β)) (a : α) (b : β) : ((aput kvs a b).map (·.1)) = if (aget kvs a).isSome then kvs.map (·.1) else kvs.map (·.1) ++ [a] := by
  have h2 : (kvs.any fun p => decide (p.1 = a)) = (aget kvs a).isSome := by
    induction kvs with
    | nil => rfl
    | cons p kvs ih =>
      unfold aget at ih ⊢
      by_cases e : p.1 = a
      · simp [e]
      · simp only [List.any_cons, e, decide_false, Bool.false_or, List.find?_cons] ; exact ih
  unfold aput
  rw [h2]
  split
  · rw [List.map_map]
    refine List.map_congr_left fun p _ => ?_
    simp only [Function.comp]
    split <;> rfl
  · simp
theorem zeg (kvs : List (α × β)) (a : α) : (aget kvs a).isSome ↔ a ∈ kvs.map (·.1) := by
  induction kvs with
  | nil => simp [aget]
  | cons p kvs ih =>
    unfold aget at ih ⊢
    by_cases e : p.1 = a
    · simp [e]
    · have : ¬ a = p.1 := fun h => e h.symm
      simp only [List.find?_cons, e, decide_false, List.map_cons, List.mem_cons, this, false_or]
      exact ih
theorem zj7 (kvs : List (α × β)) (a : α) (b : β) : (aput kvs a b).length ≤ kvs.length + 1 := by
  unfold aput; split <;> simp
theorem zjl (kvs : List (α × β)) (a : α) (b : β) (h : (kvs.map (·.1)).Nodup) : ((aput kvs a b).map (·.1)).Nodup := by
  rw [zpf]
  split
  · exact h
  · rename_i hn
    rw [zeg] at hn
    rw [List.nodup_append]
    exact ⟨h, by simp, fun x hx y hy => by simp at hy; subst hy; exact fun e => hn (e ▸ hx)⟩
/-- kvs counts L -/
structure Cnt (kvs : List (α × Int)) (L : List α) : Prop where
  nd : (kvs.map (·.1)).Nodup
  at_ : ∀ a, aget kvs a = if L.count a = 0 then none else some (L.count a : Int)
  le : kvs.length ≤ L.length
theorem Cnt.nil : Cnt ([] : List (α × Int)) [] := ⟨List.nodup_nil, fun a => by simp [aget], Nat.le_refl _⟩
theorem Cnt.step {kvs : List (α × Int)} {L : List α} (h : Cnt kvs L) (a : α) : Cnt (aput kvs a ((aget kvs a).getD 0 + 1)) (L ++ [a]) := by
  refine ⟨zjl _ _ _ h.nd, fun c => ?_, ?_⟩
  · rw [zsq, h.at_ a, h.at_ c, List.count_append]
    by_cases e : c = a
    · subst e
      rw [if_pos rfl]
      by_cases z : L.count c = 0
      · simp [z]
      · simp [z]
    · have e' : ¬ a = c := fun h => e h.symm
      rw [if_neg e]
      simp [e', List.count_singleton]
  · have := zj7 kvs a ((aget kvs a).getD 0 + 1)
    have := h.le
    rw [List.length_append, List.length_singleton]; omega
theorem Cnt.mem {kvs : List (α × Int)} {L : List α} (h : Cnt kvs L) (a : α) : a ∈ kvs.map (·.1) ↔ a ∈ L := by
  rw [← zeg, h.at_ a]
  by_cases z : L.count a = 0
  · simp [z, List.count_eq_zero.mp z]
  · simp only [z, if_false, Option.isSome_some, true_iff]
    exact List.count_pos_iff.mp (Nat.pos_of_ne_zero z)
end
def k2 (p : Int × Int) : NestedKey := .tup [.num p.1, .num p.2]
def k3 (p : Int × Int × Int) : NestedKey := .tup [.num p.1, .num p.2.1, .num p.2.2]
theorem zv5 {a b : Int × Int} : k2 a = k2 b ↔ a = b := by
  obtain ⟨a1, a2⟩ := a; obtain ⟨b1, b2⟩ := b
  simp [k2]
theorem zv9 (p : Int × Int) : D.key (e2 p) = some (k2 p) := by simp [e2, k2, D.key, D.keys]
theorem zyh (p : Int × Int) : (k2 p).depth ≤ 8 := by simp [k2, NestedKey.depth, NestedKey.depthAll]
theorem zwc (p : Int × Int) : nkD (k2 p) = e2 p := by simp [e2, k2, nkD, nkDs]
def drw (ns : List Int) (c : Int) : DO := .lst [.nd .scr (ns.map .int), .int c]
def zci : DRn := d2 fun s i G Q => ∃ (ns : List Int) (c : Int), s = .nd .scr (ns.map .int) ∧ i = .int c ∧ ns.length ≤ 63 ∧ ∀ r : Int, 0 ≤ r → Q (.int r) G
def zap : DRn := d2 fun dr m G Q => ∃ (a : Addr) (ns : List Int) (c n : Int), dr = .ref a ∧ m = .int n ∧ 0 < n ∧ ns.length ≤ 63 ∧ G a = some (drw ns c) ∧ ∀ r : Int, 0 ≤ r → r < n → Q (.int r) (up G a (drw ns (c + 1)))
theorem zkk : ∀ ds G Q, zci ds G Q → ds.length = 2 := fun ds G Q h => by
  match ds, h with
  | [_, _], _ => rfl
theorem zm4 : ∀ ds G Q, zap ds G Q → ds.length = 2 := fun ds G Q h => by
  match ds, h with
  | [_, _], _ => rfl
abbrev zez : List Str := ["script", "index", "cell", "far", "rest", "lap", "blend"]
def zta : DTS :=
    (dSeq (dFor (zdz (zf (dOp dMod (dCB dInt (zf (ze 3) dNil)) (dC (.int 60))) dNil)) (zj 5)
    (dAsg (dOp zs6 (ze 4) (dC (.int 1009))) (zj 4)))
    (dSeq (dIfS (zbl (dOp dGt (ze 4) (dC (.int 0))))
    (dRet (dOp dMod (dCB dInt (zf (ze 4) dNil)) (dC (.int 1009))))
    zem)
    (dSeq (dAsg (dOp dMod (dOp dAdd (dOp dMul (dCB dInt (zf (dOp dAdd (ze 2) (dOp dMul (dC (.int 977)) (ze 1))) dNil)) (dC (.int 48271))) (dOp dMul (dC (.int 31)) (dCB dLen (zf (ze 0) dNil)))) (dC (.int 2147483647))) (zj 6))
    (dSeq (dAsg (dOp dMod (dOp dAdd (dOp dMul (ze 6) (ze 6)) (dOp dMul (dC (.int 40503)) (ze 1))) (dC (.int 2147483629))) (zj 6))
    (dRet (dCB dInt (zf (dOp dMod (dOp dAdd (dOp dMul (ze 6) (dC (.int 69621))) (dOp zs6 (ze 6) (dC (.int 977)))) (dC (.int 2147483587))) dNil)))))))
def zgp : DTS :=
    (dSeq (dAsg (dIf (zbl (dOp dNe (ze 0) (zgo dNil))) (dTup (zf (dOp dIx (ze 0) (dOp dMod (ze 1) (dCB dLen (zf (ze 0) dNil)))) (zf (dOp zs6 (ze 1) (dCB dLen (zf (ze 0) dNil))) dNil))) (dTup (zf (dC (.int 12345)) (zf (dC (.int 0)) dNil)))) (zfd (za2 (zj 2) (za2 (zj 3) zfa)) 2))
    (dSeq (dAsg (dIf (zbl (dOp dLt (ze 3) (dC (.int 60)))) (dOp dSub (ze 2) (dOp dPow (dC (.int 10)) (dC (.int 18)))) (dC (.int 0))) (zj 4))
    zta))
abbrev zgn : List Str := ["draw", "many"]
def zh3 : DTS :=
    (dSeq (zk3 (ze 0) (dC (.int 1)) (dC (.int 1)) zs4 zjw dSet)
    (dRet (dOp dMod (dCB dInt (zf (dCB zci (zf (dOp dIx (ze 0) (dC (.int 0))) (zf (dCB dInt (zf (dOp dIx (ze 0) (dC (.int 1))) dNil)) dNil))) dNil)) (ze 1))))
theorem zsb (ns : List Int) : plainDs (ns.map .int) = true := by
  induction ns with
  | nil => rfl
  | cons n ns ih => exact ih
theorem zsa {ns : List Int} {G : DHp} {Q : DVK} (h : Q (.bl (!ns.isEmpty)) G) : dNe (.nd .scr (ns.map .int)) (.nd .lst []) G Q := by
  have hc : cleans (ns.map D.int) = true := zcb (fun _ => rfl) ns
  have e1 : py (.nd .scr (ns.map .int)) = .list (pys (ns.map .int)) := by rw [py]
  have e2 : py (.nd .lst []) = .list [] := by rw [py, pys]
  refine ⟨⟨by show zb2 (.nd .scr _) = true; rw [zb2]; exact zsb ns, rfl, ?_, ?_⟩, ?_⟩
  · show SeqAt.shaped (py (.nd .scr (ns.map .int))) = true
    rw [e1]
    unfold SeqAt.shaped
    have := zgt (B := 0) (ds := ns.map D.int) fun d hd => by
      obtain ⟨i, _, rfl⟩ := List.mem_map.mp hd; exact Nat.le_of_eq (zek i)
    rw [PyData.canLay0, cleans_lay hc, PyData.depth, decide_eq_true (by omega)]; rfl
  · show SeqAt.shaped (py (.nd .lst [])) = true
    rw [e2]; decide
  · show Q (.bl (!PyData.eqv (py (.nd .scr (ns.map .int))) (py (.nd .lst [])))) G
    rw [e1, e2, PyData.eqv]
    cases ns with
    | nil => simpa [pys, PyData.eqvAll] using h
    | cons n ns => simpa [pys, PyData.eqvAll] using h
theorem zeu {d : D} {ds : List D} {G : DHp} {Q : DVK} (h : sqD d G = some ds) : dLen [d] G Q = Q (.int ds.length) G := by
  unfold dLen d1
  simp only [h]
theorem zhu {ns : List Int} {G : DHp} {Q : DVK} : dLen [.nd .scr (ns.map .int)] G Q = Q (.int ns.length) G := by
  rw [zeu (ds := ns.map .int) rfl, List.length_map]
theorem ziw {i : Int} {G : DHp} {Q : DVK} : dInt [.int i] G Q = Q (.int i) G := rfl
theorem zkc {ns : List Int} {c cell far rest : Int} {G : DHp} {Q : DVK} (q : ∀ r : Int, 0 ≤ r → Q (.int r) G) :
    zta { nx := fun _ G' => Q .non G', rt := Q } [some (.nd .scr (ns.map .int)), some (.int c), some (.int cell), some (.int far), some (.int rest), none, none] G := by
  unfold zta
  refine ⟨(by show (0 : Int) < 60; decide), ⟨by omega, by omega⟩, fun i η G' => G' = G ∧ ∃ z : Int, η = [some (.nd .scr (ns.map .int)), some (.int c), some (.int cell), some (.int far), some (.int z), none, none], ⟨rfl, rest, rfl⟩, fun _ _ _ _ => trivial, ?_, ?_⟩
  · rintro i d η G' hd ⟨rfl, z, rfl⟩
    obtain ⟨x, hx, rfl⟩ := zcn hd
    simp only [dSeq, dIfS, zbl, dOp, ze, dC, dRet, zgo, zf, dNil, dTup, zem, dAsg, zf2, zj, zf0, dM, dM0, dIf, dAnd, dOr, dNot, zkx, dOrV, zm0, zi0, dFz, znj, zn6, ziv, zmy, dCB, zfd, za2, zfa, znc, dNeg, dAug, zk3, dFrz, dPar, zgk, zod, zil, dYes, zc3, i2, d1, d2, d3, zbj, List.map_cons, List.map_nil, List.length_cons, List.length_nil, List.cons_append, List.nil_append, List.append_nil, List.getElem?_cons_zero, List.getElem?_cons_succ, List.getElem?_nil, List.replicate, List.set_cons_succ, List.set_cons_zero, Nat.reduceAdd, Nat.reduceSub, Nat.reduceLeDiff, zgv, zgi, zix, zir, zih, zib, ze1, zd5, true_and, and_true, Bool.not_eq_true, Bool.not_true, Bool.not_false, if_true, if_false, Bool.false_eq_true, ite_true, ite_false, reduceIte, reduceCtorEq, decide_eq_true_eq, decide_eq_false_iff_not]
    exact ⟨⟨by decide, by decide⟩, _, (by repeat (first | exact Le.nil | apply Le.keep | apply Le.drop)), rfl, _, rfl⟩
  · rintro η G' ⟨rfl, z, rfl⟩
    simp only [zhu, ziw, dSeq, dIfS, zbl, dOp, ze, dC, dRet, zgo, zf, dNil, dTup, zem, dAsg, zf2, zj, zf0, dM, dM0, dIf, dAnd, dOr, dNot, zkx, dOrV, zm0, zi0, dFz, znj, zn6, ziv, zmy, dCB, zfd, za2, zfa, znc, dNeg, dAug, zk3, dFrz, dPar, zgk, zod, zil, dYes, zc3, i2, d1, d2, d3, zbj, List.map_cons, List.map_nil, List.length_cons, List.length_nil, List.cons_append, List.nil_append, List.append_nil, List.getElem?_cons_zero, List.getElem?_cons_succ, List.getElem?_nil, List.replicate, List.set_cons_succ, List.set_cons_zero, Nat.reduceAdd, Nat.reduceSub, Nat.reduceLeDiff, zgv, zgi, zix, zir, zih, zib, ze1, zd5, true_and, and_true, Bool.not_eq_true, Bool.not_true, Bool.not_false, if_true, if_false, Bool.false_eq_true, ite_true, ite_false, reduceIte, reduceCtorEq, decide_eq_true_eq, decide_eq_false_iff_not]
    split
    · exact ⟨by decide, q _ (Int.emod_nonneg _ (by decide))⟩
    · refine ⟨.inl ⟨by decide, by decide⟩, .inr ⟨by decide, by decide⟩, .inl ⟨by decide, by decide⟩, by decide, ?_⟩
      have hb := Int.emod_nonneg ((cell + 977 * c) * 48271 + 31 * (ns.length : Int)) (show (2147483647 : Int) ≠ 0 by decide)
      have hb2 := Int.emod_lt_of_pos ((cell + 977 * c) * 48271 + 31 * (ns.length : Int)) (show (0 : Int) < 2147483647 by decide)
      generalize ((cell + 977 * c) * 48271 + 31 * (ns.length : Int)) % 2147483647 = b at hb hb2 ⊢
      refine ⟨.inl ⟨by omega, by omega⟩, .inl ⟨by decide, by decide⟩, by decide, ?_⟩
      refine ⟨.inr ⟨by decide, by decide⟩, ⟨by decide, by decide⟩, by decide, q _ (Int.emod_nonneg _ (by decide))⟩
theorem zr2 {ns : List Int} {i : Int} {G : DHp} {Q : DVK} (h0 : 0 ≤ i) (h1 : i < ns.length) (h : ∀ z : Int, Q (.int z) G) : dIx (.nd .scr (ns.map .int)) (.int i) G Q := by
  show atD (ns.map .int) (.int i) fun d => Q d G
  have hi : i.toNat < (ns.map D.int).length := by rw [List.length_map]; omega
  refine zkp h0 (d := (ns.map D.int)[i.toNat]) (List.getElem?_eq_getElem hi) ?_
  rw [List.getElem_map]
  exact h _
theorem zlh : ∀ ds G Q, zci ds G Q → zgp { nx := fun _ G' => Q .non G', rt := Q } (zbj zez ds) G := fun ds G Q h => by
  match ds, h with
  | [_, _], ⟨ns, c, rfl, rfl, hl, q⟩ =>
    simp only [zgp, zez, zhu, ziw, dSeq, dIfS, zbl, dOp, ze, dC, dRet, zgo, zf, dNil, dTup, zem, dAsg, zf2, zj, zf0, dM, dM0, dIf, dAnd, dOr, dNot, zkx, dOrV, zm0, zi0, dFz, znj, zn6, ziv, zmy, dCB, zfd, za2, zfa, znc, dNeg, dAug, zk3, dFrz, dPar, zgk, zod, zil, dYes, zc3, i2, d1, d2, d3, zbj, List.map_cons, List.map_nil, List.length_cons, List.length_nil, List.cons_append, List.nil_append, List.append_nil, List.getElem?_cons_zero, List.getElem?_cons_succ, List.getElem?_nil, List.replicate, List.set_cons_succ, List.set_cons_zero, Nat.reduceAdd, Nat.reduceSub, Nat.reduceLeDiff, zgv, zgi, zix, zir, zih, zib, ze1, zd5, true_and, and_true, Bool.not_eq_true, Bool.not_true, Bool.not_false, if_true, if_false, Bool.false_eq_true, ite_true, ite_false, reduceIte, reduceCtorEq, decide_eq_true_eq, decide_eq_false_iff_not]
    refine zsa ?_
    simp only [zhu, ziw, dSeq, dIfS, zbl, dOp, ze, dC, dRet, zgo, zf, dNil, dTup, zem, dAsg, zf2, zj, zf0, dM, dM0, dIf, dAnd, dOr, dNot, zkx, dOrV, zm0, zi0, dFz, znj, zn6, ziv, zmy, dCB, zfd, za2, zfa, znc, dNeg, dAug, zk3, dFrz, dPar, zgk, zod, zil, dYes, zc3, i2, d1, d2, d3, zbj, List.map_cons, List.map_nil, List.length_cons, List.length_nil, List.cons_append, List.nil_append, List.append_nil, List.getElem?_cons_zero, List.getElem?_cons_succ, List.getElem?_nil, List.replicate, List.set_cons_succ, List.set_cons_zero, Nat.reduceAdd, Nat.reduceSub, Nat.reduceLeDiff, zgv, zgi, zix, zir, zih, zib, ze1, zd5, true_and, and_true, Bool.not_eq_true, Bool.not_true, Bool.not_false, if_true, if_false, Bool.false_eq_true, ite_true, ite_false, reduceIte, reduceCtorEq, decide_eq_true_eq, decide_eq_false_iff_not]
    split
    · rename_i hne
      have hp : 0 < ns.length := by
        cases ns with
        | nil => simp at hne
        | cons _ _ => simp
      refine ⟨by omega, zr2 (Int.emod_nonneg _ (by omega)) (Int.emod_lt_of_pos _ (by omega)) fun z => ⟨⟨by omega, by omega⟩, ?_⟩⟩
      split
      · exact ⟨⟨by decide, by decide, by decide⟩, trivial, zkc q⟩
      · exact zkc q
    · split
      · exact ⟨⟨by decide, by decide, by decide⟩, zkc q⟩
      · exact zkc q
theorem znl : ∀ ds G Q, zap ds G Q → zh3 { nx := fun _ G' => Q .non G', rt := Q } (zbj zgn ds) G := fun ds G Q h => by
  match ds, h with
  | [_, _], ⟨a, ns, c, n, rfl, rfl, hn, hl, hG, q⟩ =>
    simp only [zh3, zgn, dSeq, dIfS, zbl, dOp, ze, dC, dRet, zgo, zf, dNil, dTup, zem, dAsg, zf2, zj, zf0, dM, dM0, dIf, dAnd, dOr, dNot, zkx, dOrV, zm0, zi0, dFz, znj, zn6, ziv, zmy, dCB, zfd, za2, zfa, znc, dNeg, dAug, zk3, dFrz, dPar, zgk, zod, zil, dYes, zc3, i2, d1, d2, d3, zbj, List.map_cons, List.map_nil, List.length_cons, List.length_nil, List.cons_append, List.nil_append, List.append_nil, List.getElem?_cons_zero, List.getElem?_cons_succ, List.getElem?_nil, List.replicate, List.set_cons_succ, List.set_cons_zero, Nat.reduceAdd, Nat.reduceSub, Nat.reduceLeDiff, zgv, zgi, zix, zir, zih, zib, ze1, zd5, true_and, and_true, Bool.not_eq_true, Bool.not_true, Bool.not_false, if_true, if_false, Bool.false_eq_true, ite_true, ite_false, reduceIte, reduceCtorEq, decide_eq_true_eq, decide_eq_false_iff_not]
    have e1 : der (.ref a) G = .nd .lst [.nd .scr (ns.map .int), .int c] := zqr hG
    show zs4 (.ref a) (.int 1) G _
    unfold zs4
    rw [e1]
    refine zkp (by decide) rfl ?_
    simp only [dSeq, dIfS, zbl, dOp, ze, dC, dRet, zgo, zf, dNil, dTup, zem, dAsg, zf2, zj, zf0, dM, dM0, dIf, dAnd, dOr, dNot, zkx, dOrV, zm0, zi0, dFz, znj, zn6, ziv, zmy, dCB, zfd, za2, zfa, znc, dNeg, dAug, zk3, dFrz, dPar, zgk, zod, zil, dYes, zc3, i2, d1, d2, d3, zbj, List.map_cons, List.map_nil, List.length_cons, List.length_nil, List.cons_append, List.nil_append, List.append_nil, List.getElem?_cons_zero, List.getElem?_cons_succ, List.getElem?_nil, List.replicate, List.set_cons_succ, List.set_cons_zero, Nat.reduceAdd, Nat.reduceSub, Nat.reduceLeDiff, zgv, zgi, zix, zir, zih, zib, ze1, zd5, true_and, and_true, Bool.not_eq_true, Bool.not_true, Bool.not_false, if_true, if_false, Bool.false_eq_true, ite_true, ite_false, reduceIte, reduceCtorEq, decide_eq_true_eq, decide_eq_false_iff_not]
    have e2 : up G a (.lst ([D.nd .scr (ns.map .int), .int c].set 1 (.int (c + 1)))) = up G a (drw ns (c + 1)) := rfl
    have hs : ∀ R, R (up G a (drw ns (c + 1))) → dSet (.ref a) (.int 1) (.int (c + 1)) G R := fun R h => by
      show (match G a with | some (.lst ds) => _ | some (.dN kvs) => _ | some (.dK kvs) => _ | _ => False)
      rw [hG]
      exact h
    refine hs _ ?_
    have e3 : der (.ref a) (up G a (drw ns (c + 1))) = .nd .lst [.nd .scr (ns.map .int), .int (c + 1)] := zqr zg
    have hix : ∀ (i : Int) (d : D) R, 0 ≤ i → [D.nd .scr (ns.map .int), .int (c + 1)][i.toNat]? = some d → R d (up G a (drw ns (c + 1))) → dIx (.ref a) (.int i) (up G a (drw ns (c + 1))) R := fun i d R h0 h1 h => by
      unfold dIx
      rw [e3]
      exact zkp h0 h1 h
    refine hix 0 _ _ (by decide) rfl ?_
    refine hix 1 _ _ (by decide) rfl ?_
    simp only [ziw, dSeq, dIfS, zbl, dOp, ze, dC, dRet, zgo, zf, dNil, dTup, zem, dAsg, zf2, zj, zf0, dM, dM0, dIf, dAnd, dOr, dNot, zkx, dOrV, zm0, zi0, dFz, znj, zn6, ziv, zmy, dCB, zfd, za2, zfa, znc, dNeg, dAug, zk3, dFrz, dPar, zgk, zod, zil, dYes, zc3, i2, d1, d2, d3, zbj, List.map_cons, List.map_nil, List.length_cons, List.length_nil, List.cons_append, List.nil_append, List.append_nil, List.getElem?_cons_zero, List.getElem?_cons_succ, List.getElem?_nil, List.replicate, List.set_cons_succ, List.set_cons_zero, Nat.reduceAdd, Nat.reduceSub, Nat.reduceLeDiff, zgv, zgi, zix, zir, zih, zib, ze1, zd5, true_and, and_true, Bool.not_eq_true, Bool.not_true, Bool.not_false, if_true, if_false, Bool.false_eq_true, ite_true, ite_false, reduceIte, reduceCtorEq, decide_eq_true_eq, decide_eq_false_iff_not]
    refine ⟨ns, c + 1, rfl, rfl, hl, fun r hr => ?_⟩
    simp only [ziw, dSeq, dIfS, zbl, dOp, ze, dC, dRet, zgo, zf, dNil, dTup, zem, dAsg, zf2, zj, zf0, dM, dM0, dIf, dAnd, dOr, dNot, zkx, dOrV, zm0, zi0, dFz, znj, zn6, ziv, zmy, dCB, zfd, za2, zfa, znc, dNeg, dAug, zk3, dFrz, dPar, zgk, zod, zil, dYes, zc3, i2, d1, d2, d3, zbj, List.map_cons, List.map_nil, List.length_cons, List.length_nil, List.cons_append, List.nil_append, List.append_nil, List.getElem?_cons_zero, List.getElem?_cons_succ, List.getElem?_nil, List.replicate, List.set_cons_succ, List.set_cons_zero, Nat.reduceAdd, Nat.reduceSub, Nat.reduceLeDiff, zgv, zgi, zix, zir, zih, zib, ze1, zd5, true_and, and_true, Bool.not_eq_true, Bool.not_true, Bool.not_false, if_true, if_false, Bool.false_eq_true, ite_true, ite_false, reduceIte, reduceCtorEq, decide_eq_true_eq, decide_eq_false_iff_not]
    exact ⟨hn, q _ (Int.emod_nonneg _ (by omega)) (Int.emod_lt_of_pos _ hn)⟩
/-- a draw -/
theorem zuh {a : Addr} {ns : List Int} {c n : Int} {G : DHp} {Q : DVK} (hn : 0 < n) (hl : ns.length ≤ 63) (hG : G a = some (drw ns c)) (q : ∀ r : Int, 0 ≤ r → r < n → Q (.int r) (up G a (drw ns (c + 1)))) : zap [.ref a, .int n] G Q :=
  ⟨a, ns, c, n, rfl, rfl, hn, hl, hG, q⟩
end DL
namespace DL
open PySem PySem.Spec PyProof.Rows L2
section
variable {α β : Type} [DecidableEq α]
def eD (k : α → NestedKey) (f : β → D) (kvs : List (α × β)) : D := .nd (.dN ((enc k f kvs).map (·.1))) ((enc k f kvs).map (·.2))
theorem zi8 (k : α → NestedKey) (f : β → D) (kvs : List (α × β)) : DO.tree (.dN (enc k f kvs)) = eD k f kvs := rfl
theorem zsw (k : α → NestedKey) (f : β → D) (kvs : List (α × β)) (G : DHp) : dicN (eD k f kvs) G = some (enc k f kvs) := by
  show some (((enc k f kvs).map (·.1)).zip ((enc k f kvs).map (·.2))) = _
  rw [zj4]
theorem zul {k : α → NestedKey} {f : β → D} {kvs : List (α × β)} {G : DHp} {p : Addr} (e : G p = some (.dN (enc k f kvs))) : dicN (.ref p) G = some (enc k f kvs) := by
  show (match G p with | some (.dN kvs) => some kvs | _ => none) = _
  rw [e]
/-- a key that is a tuple -/
structure TKey (k : α → NestedKey) (e : α → D) : Prop where
  inj : ∀ {a b}, k a = k b ↔ a = b
  shp : ∀ a, ∃ ks, e a = .nd .tup ks
  key : ∀ a, D.key (e a) = some (k a)
  dep : ∀ a, (k a).depth ≤ 8
  nk : ∀ a, nkD (k a) = e a
theorem tk2 : TKey k2 e2 := ⟨zv5, fun _ => ⟨_, rfl⟩, zv9, zyh, zwc⟩
variable {k : α → NestedKey} {e : α → D} {f : β → D} {kvs : List (α × β)} {G : DHp} {Q : DVK} {a : α}
theorem zqm (T : TKey k e) {p : Addr} {b : β} {R : DHp → Prop} (h : G p = some (.dN (enc k f kvs))) (hl : kvs.length < sizeLine) (q : R (up G p (.dN (enc k f (aput kvs a b))))) : dSet (.ref p) (e a) (f b) G R := by
  obtain ⟨ks, ek⟩ := T.shp a
  show (match G p with | some (.lst ds) => _ | some (.dN kvs) => _ | some (.dK kvs) => _ | _ => False)
  rw [h]
  show (match e a with | .nd .tup ks => _ | _ => False)
  have hk := T.key a
  rw [ek] at hk ⊢
  show (match D.key (.nd .tup ks) with | some k => _ | none => False)
  rw [hk]
  refine ⟨⟨T.dep a, by unfold enc; rw [List.length_map]; exact hl⟩, ?_⟩
  rw [zu5 T.inj]
  exact q
theorem zmv (T : TKey k e) {neg : Bool} {y : D} (h : dicN y G = some (enc k f kvs)) (q : Q (.bl (neg != (aget kvs a).isSome)) G) : dIn neg (e a) y G Q := by
  obtain ⟨ks, ek⟩ := T.shp a
  have hk := T.key a
  have hd : ∀ ds, der y G ≠ .nd .lst ds ∧ der y G ≠ .nd .tup ds := fun ds => by
    cases y with
    | ref p =>
      have h' : (match G p with | some (.dN kvs) => some kvs | _ => none) = some (enc k f kvs) := h
      cases g : G p with
      | none => rw [g] at h'; cases h'
      | some o =>
        rw [g] at h'
        cases o with
        | dN kk => rw [zk2, g]; exact ⟨(nomatch ·), (nomatch ·)⟩
        | _ => cases h'
    | nd kd es =>
      cases kd with
      | dN _ => exact ⟨(nomatch ·), (nomatch ·)⟩
      | _ => cases h
    | _ => cases h
  unfold dIn
  split
  · rename_i ds he; exact ((hd ds).1 he).elim
  · rename_i ds he; exact ((hd ds).2 he).elim
  · rw [h]
    show (match e a with | .nd .tup ks => _ | _ => False)
    rw [ek] at hk ⊢
    show (match D.key (.nd .tup ks) with | some k => _ | none => False)
    rw [hk]
    refine ⟨T.dep a, ?_⟩
    rw [znr T.inj, Option.isSome_map]
    exact q
end
def srtT {α : Type} (f : α → D) (xs : List α) : List α := xs.mergeSort fun a b => PySem.W.dataLe false py (f a) (f b)
theorem zte {α : Type} (f : α → D) (xs : List α) : srt (xs.map f) = (srtT f xs).map f := by
  unfold srt srtT
  exact (List.map_mergeSort (r := fun a b => PySem.W.dataLe false py (f a) (f b)) (s := PySem.W.dataLe false py) (f := f) (l := xs) fun a _ b _ => rfl).symm
theorem zbh {α : Type} (f : α → D) (xs : List α) : (srtT f xs).Perm xs := List.mergeSort_perm _ _
theorem zb7 {α : Type} {f : α → D} {d : D} {xs : List α} {G : DHp} {Q : DVK} (h : lsD d G = some (xs.map f)) (hp : ∀ a, zah (f a) = true) (al : ∀ a b, PySem.W.alike (py (f a)) (py (f b)) = true) (st : PySem.W.Sortable ((xs.map f).map py)) (dp : ∀ a, (py (f a)).depth ≤ 60)
    (q : ∀ p, G p = none → Q (.ref p) (up G p (.lst ((srtT f xs).map f)))) : zd3 [d] G Q := by
  show (match lsD d G with | some ds => _ | none => False)
  rw [h]
  refine ⟨⟨cleans_plain (zcb hp xs), ?_, st, fun d hd => ?_⟩, fun p hn => by rw [zte]; exact q p hn⟩
  · rw [List.map_map]; exact PySem.W.AllAlike.of al
  · obtain ⟨a, _, rfl⟩ := List.mem_map.mp hd; exact dp a
theorem al2 (a b : Int × Int) : PySem.W.alike (py (e2 a)) (py (e2 b)) = true := by simp [e2, py, pys, PySem.W.alike, PySem.W.alikeAll]
theorem al3 (a b : Int × Int × Int) : PySem.W.alike (py (e3 a)) (py (e3 b)) = true := by simp [e3, py, pys, PySem.W.alike, PySem.W.alikeAll]
theorem st2 (xs : List (Int × Int)) : PySem.W.Sortable ((xs.map e2).map py) := by
  rw [List.map_map]
  exact PySem.W.Sortable.tuples fun b => ⟨.int b.1, [.int b.2], by simp [e2, py, pys]⟩
theorem st3 (xs : List (Int × Int × Int)) : PySem.W.Sortable ((xs.map e3).map py) := by
  rw [List.map_map]
  exact PySem.W.Sortable.tuples fun b => ⟨.int b.1, [.int b.2.1, .int b.2.2], by simp [e3, py, pys]⟩
/-- two sortings of the same are the same -/
theorem zgw {α : Type} {le : α → α → Bool} (anti : ∀ a b, le a b = true → le b a = true → a = b) : ∀ {xs ys : List α}, xs.Perm ys → xs.Pairwise (fun a b => le a b = true) → ys.Pairwise (fun a b => le a b = true) → xs = ys
  | [], ys, p, _, _ => (List.Perm.nil_eq p)
  | x :: xs, [], p, _, _ => absurd p.length_eq (by simp)
  | x :: xs, y :: ys, p, hx, hy => by
    rw [List.pairwise_cons] at hx hy
    have e : x = y := by
      have m1 : x ∈ y :: ys := p.subset (by simp)
      have m2 : y ∈ x :: xs := p.symm.subset (by simp)
      rcases List.mem_cons.mp m1 with e | m1
      · exact e
      · rcases List.mem_cons.mp m2 with e | m2
        · exact e.symm
        · exact anti _ _ (hx.1 y m2) (hy.1 x m1)
    subst e
    rw [zgw anti ((List.perm_cons x).mp p) hx.2 hy.2]
theorem zhj {α : Type} [DecidableEq α] {xs ys : List α} (h1 : xs.Nodup) (h2 : ys.Nodup) (h : ∀ a, a ∈ xs ↔ a ∈ ys) : xs.Perm ys := by
  rw [List.perm_iff_count]
  intro a
  rw [h1.count, h2.count]
  simp only [h]
theorem zkg {α β : Type} {f : α → List β} {B : Nat} : ∀ {xs : List α}, (∀ x ∈ xs, (f x).length ≤ B) → (xs.flatMap f).length ≤ xs.length * B
  | [], _ => by simp
  | x :: xs, h => by
    rw [List.flatMap_cons, List.length_append, List.length_cons, Nat.succ_mul]
    have := h x (by simp)
    have := zkg (f := f) (B := B) (xs := xs) fun y hy => h y (by simp [hy])
    omega
end DL
namespace DL
open PySem PySem.Spec PyProof.Rows L2
section
variable {K : Ml} {H : Hp} {G : DHp}
theorem zt2 {n : Str} {d : D} : ∀ {fs : List (Str × D)} {ws : List (Str × V)}, ws.map (·.1) = fs.map (·.1) → VRs K H G (fs.map (·.2)) (ws.map (·.2)) → fs.lookup n = some d → ∃ v, ws.lookup n = some v ∧ VR K H G d v
  | [], _, _, _, e => by simp at e
  | _ :: _, [], h, _, _ => by simp at h
  | (g, x) :: fs, (g2, y) :: ws, h, r, e => by
    simp only [List.map_cons, List.cons.injEq] at h
    obtain ⟨h1, h2⟩ := h
    subst h1
    obtain ⟨v', r', eq, q1, t⟩ := VRs.uncons r
    simp only [List.map_cons, List.cons.injEq] at eq
    obtain ⟨rfl, rfl⟩ := eq
    by_cases hg : (n == g2) = true
    · simp only [List.lookup, hg, Option.some.injEq] at e ⊢
      subst e
      exact ⟨_, rfl, q1⟩
    · have hg : (n == g2) = false := by simpa using hg
      simp only [List.lookup, hg] at e ⊢
      exact zt2 h2 t e
end
end DL
namespace DL
open PySem PySem.Spec PyProof.Rows L2
/-- the items by their places -/
def zh0 (ds : List D) : List D := ds.mapIdx fun i d => .nd .tup [.int (i : Nat), d]
def zpc (T : DTA) : DTI := fun η G R => T η G fun ds G1 => match ds with
  | [d] => (match d with
    | .nd .tup xs => R (zh0 xs) always G1
    | .nd .lst xs => R (zh0 xs) always G1
    | .nd .scr xs => R (zh0 xs) always G1
    | _ => False)
  | _ => False
theorem zkq {ds : List D} {i : Nat} {d : D} (h : (zh0 ds)[i]? = some d) : ∃ x, ds[i]? = some x ∧ d = .nd .tup [.int (i : Nat), x] := by
  unfold zh0 at h
  rw [List.getElem?_mapIdx] at h
  cases e : ds[i]? with
  | none => rw [e] at h; cases h
  | some x => rw [e] at h; cases h; exact ⟨x, rfl, rfl⟩
theorem zlp (ds : List D) : (zh0 ds).length = ds.length := by unfold zh0; rw [List.length_mapIdx]
theorem Ite.itD {K : Ml} {H1 : Hp} {G1 : DHp} {a : Addr} {ds : List D} (h : ∀ H G, Ext H1 G1 H G → HR K H G → ∃ vs, SqL K.K H a vs ∧ VRs K H G ds vs) : ItD K H1 G1 (Ite K.K a) (zh0 ds) always := by
  intro i H G x r o
  obtain ⟨vs, q, v⟩ := h H G x r
  refine ⟨fun d e => ?_, fun l => ⟨vs, q, by rw [v.length]; rw [zlp] at l; exact l⟩⟩
  obtain ⟨z, e1, rfl⟩ := zkq e
  obtain ⟨u, e2, q2⟩ := v.get e1
  refine ⟨⟨vs, u, q, e2⟩, fun y H' ⟨T, y2, e3, hT, e5, e4⟩ => ?_⟩
  subst e3 e5
  have e6 := e4 vs q
  rw [e2] at e6; cases e6
  have x2 : Ext H G (upd H T (.tup [.int (i : Nat), u])) G := .laid hT
  refine ⟨x2, r.laid hT, ?_⟩
  rw [VR]
  exact ⟨T, _, rfl, .inl (.inl upd_same), .cons (by rw [VR]) (.cons (q2.ext r x2) .nil)⟩
/-- the tuple at a, each item in a new pair -/
def IteT (K : PySem.W.Frag) (a : Addr) : It :=
  ⟨fun i H => ∃ (xs : List V) (x : V), SqT K H a xs ∧ xs[i]? = some x,
    fun i H v H' => ∃ T x, v = .ref T ∧ H T = none ∧ H' = upd H T (.tup [.int (i : Nat), x]) ∧ ∀ xs, SqT K H a xs → xs[i]? = some x,
    fun i H => ∃ xs : List V, SqT K H a xs ∧ xs.length ≤ i⟩
theorem IteT.itD {K : Ml} {H1 : Hp} {G1 : DHp} {a : Addr} {ds : List D} (h : ∀ H G, Ext H1 G1 H G → HR K H G → ∃ vs, SqT K.K H a vs ∧ VRs K H G ds vs) : ItD K H1 G1 (IteT K.K a) (zh0 ds) always := by
  intro i H G x r o
  obtain ⟨vs, q, v⟩ := h H G x r
  refine ⟨fun d e => ?_, fun l => ⟨vs, q, by rw [v.length]; rw [zlp] at l; exact l⟩⟩
  obtain ⟨z, e1, rfl⟩ := zkq e
  obtain ⟨u, e2, q2⟩ := v.get e1
  refine ⟨⟨vs, u, q, e2⟩, fun y H' ⟨T, y2, e3, hT, e5, e4⟩ => ?_⟩
  subst e3 e5
  have e6 := e4 vs q
  rw [e2] at e6; cases e6
  have x2 : Ext H G (upd H T (.tup [.int (i : Nat), u])) G := .laid hT
  refine ⟨x2, r.laid hT, ?_⟩
  rw [VR]
  exact ⟨T, _, rfl, .inl (.inl upd_same), .cons (by rw [VR]) (.cons (q2.ext r x2) .nil)⟩
theorem zue {P : Program} {w : World} {K : PySem.W.Frag} {elts : List Expr} {kk : Nat} {tpos : Pos} (a e it : Addr) (hai : a ≠ it) :
    Turn P w K (.Tuple elts kk tpos) (IteT K a) [e, it] e (fun i h => (∃ old, IsEnum h e it ((i : Nat) : Int) old) ∧ h.IsTupleIter it a i ∧ e ≠ it ∧ e ≠ a) where
  mem := by simp
  obj := fun i h ⟨⟨old, he⟩, ⟨o, ho, hc, hd⟩, _⟩ b hb => by
    rcases (by simpa using hb : b = e ∨ b = it) with z | z
    · subst z; exact ⟨_, he, fun v q => nomatch q⟩
    · subst z; exact ⟨o, ho, fun v q => by rw [hd] at q; cases q⟩
  keep := fun i h h' ⟨⟨old, he⟩, hi, hne⟩ k => ⟨⟨old, k e (by simp) _ he⟩, hi.at fun o q => k it (by simp) o q, hne⟩
  item := by
    intro X hP hw hK hc i pins s σ H E I hf ⟨⟨old, he⟩, hit, hne, hea⟩ ⟨xs, x, hq, hx⟩
    subst hP hw hK
    obtain ⟨its, rv, p, hz⟩ := I.tuple hq
    obtain ⟨u, hu, ru⟩ := rv.get hx
    have hel : e < s.heap.objs.size := Heap.lt_size he
    have hil : it < s.heap.objs.size := by obtain ⟨_, q, _⟩ := hit; exact Heap.lt_size q
    have hlt : i < its.toArray.size := by
      rw [List.size_toArray]
      exact (List.getElem?_eq_some_iff.mp hu).1
    have D := Draws.tuple (prog := X.prog) (w := X.w) (A := X.A.in1) (I.ok.hd hc) it a hai its.toArray
    refine wpAny_pyNext_enum_itemD D he ⟨hit, p⟩ hlt hne (by simp only [List.mem_cons, List.not_mem_nil, or_false, not_or]; exact ⟨hne, hea⟩) fun x' h' tk hP ho hs' hT hsz hk => ?_
    have e0 : x' = u := by
      rw [List.getElem?_toArray] at hP
      rw [hu] at hP; cases hP; rfl
    subst e0
    refine ⟨_, rfl, wpAny_letOwnedTupleGo_enum (s := { s with heap := h', toks := tk + 1 }) ho fun h'' he' sb => ?_⟩
    have hT2 : h''.get? s.heap.objs.size = some { cls := .type "tuple", data := .seq #[.int i tk, x'] } := (sb.2 _ (Nat.ne_of_gt hel)).trans hT
    have new : ObjOk X.prog X.w (upd H s.heap.objs.size (.tup [.int (i : Nat), x])) h'' s.heap.objs.size (.tup [.int (i : Nat), x]) :=
      ⟨by show 2 ≤ sizeLine; decide, [.int i tk, x'], .cons ⟨_, rfl⟩ (.cons ru .nil), ⟨_, hT2, rfl, _, rfl⟩⟩
    have I1 : Inv X pins σ (upd H s.heap.objs.size (.tup [.int (i : Nat), x])) { s with heap := h'', toks := tk + 1 } :=
      I.turnedNew (ch := [e, it]) (fun b ob hb q => by
        have hb1 : b ≠ e := fun z => hb (by simp [z])
        have hb2 : b ≠ it := fun z => hb (by simp [z])
        exact (sb.2 b hb1).trans (hk b ob hb1 hb2 q)) hf (Nat.le_refl _) new
    refine ⟨.ref s.heap.objs.size, _, I1, rfl, ⟨_, x, rfl, I.hok.fresh (Nat.le_refl _), rfl, fun ys hy => by rw [I.tuple_inj hy hq]; exact hx⟩, ⟨⟨x', ?_⟩, hs'.1.at fun o q => (sb.2 it (Ne.symm hne)).trans q, hne, hea⟩, fun b hb => ?_⟩
    · have e1 : ((i + 1 : Nat) : Int) = (i : Int) + 1 := by omega
      show IsEnum h'' e it ((i + 1 : Nat) : Int) x'
      rw [e1]; exact he'
    have hb' : b < s.heap.objs.size := by
      rcases (by simpa using hb : b = e ∨ b = it) with z | z
      · subst z; exact hel
      · subst z; exact hil
    rw [upd_ne (Nat.ne_of_lt hb')]
    exact (hf b hb).1
  done := by
    intro X hP hw hK hc i pins s σ H E I hf ⟨⟨old, he⟩, hit, hne, hea⟩ ⟨xs, hq, hx⟩
    subst hP hw hK
    obtain ⟨its, rv, p, hz⟩ := I.tuple hq
    obtain ⟨f0, f1, f2, f3, f4, f5⟩ := hf it (by simp)
    have hl := rv.length
    have hT : s.TypeIs (.ref e) "enumerate" := ⟨_, he, rfl⟩
    unfold pyNext
    refine wpAny_bind (wpAny_attempt (wpAny_callSpecial?_slot (name := Str.ofString "__next__") hT F.slot_enumerate_next (wpAny_call_entry F.slot_enumerate_next hT F.entry_enumerate_next ?_ (F.args_enumerate_next_1 _))))
    show wpAny _ _ (field (.ref e) 2 >>= _) _ _ _
    refine wpAny_bind (wpAny_field he rfl (x := .ref it) rfl ?_)
    refine wpAny_bind (wpAny_nextOf_tuple_end (I.ok.hd hc) hit p (by simp; omega) fun h' x hx1 hx2 => ?_)
    obtain ⟨o, ho, hc2⟩ := hx2
    refine wpAny_bind (wpAny_isInstance (T := "StopIteration") (b := true) ⟨o, ho, hc2⟩ isSubtype_stop ?_)
    exact wpAny_pure ⟨rfl, I.turned (t' := s.toks) (fun b o hb q => hx1 b o hb q) f0 f1 f3 f4 f5⟩
  self := fun A i s Q E ⟨⟨_, he⟩, _⟩ h => wpAny_pyIter_enum he h
set_option maxHeartbeats 8000000 in
theorem zto {v : Value} {o : Obj} {S : Heap → Prop} (B : Begins v o S) :
    Meets (Builtin.«enumerate.__new__» ⟨[.type "enumerate", v], []⟩) (fun _ R s => S s.heap ∧
      R (.ok (.ret (.ref (s.heap.push o).objs.size))) { s with heap := (s.heap.push o).push { cls := .type "enumerate", data := .fields #[.none, .bool false, .ref s.heap.objs.size, rawInt 0, .none, .none] } }) :=
  .of_wp fun prog w A R s ⟨h1, h⟩ => by
    obtain ⟨hp, g, d, tk, os⟩ := s
    have hsub := sub_enumerate
    have q1 : ∀ {A' : Around} {E : Value → Shared → Prop} {Q : Value → Shared → Prop}, Q (.ref hp.objs.size) ⟨hp.push o, g, d, tk, os⟩ → wpAny (model prog w) A' (pyIter v) Q E ⟨hp, g, d, tk, os⟩ :=
      fun q => B.iter prog w _ _ ⟨hp, g, d, tk, os⟩ _ h1 q
    wp_walk using q1
    refine wpAny_stack_any fun st => wpAny_pure ?_
    split
    · rename_i c _ _ _ _ _
      cases (c == Value.type "enumerate")
      · wp_walk using q1
        exact ⟨_, rfl, h⟩
      · wp_walk using q1
        exact ⟨_, rfl, h⟩
    · wp_walk using q1
      exact ⟨_, rfl, h⟩
/-- enumerate(v) -/
theorem zt7 {prog : Program} {w : World} {A : Around} {E : Value → Shared → Prop} {s : Shared} {v : Value} {o : Obj} {S : Heap → Prop} {Q : Value → Shared → Prop} (B : Begins v o S) (h1 : S s.heap)
    (h : ∀ h', IsEnum h' (s.heap.objs.size + 1) s.heap.objs.size 0 .none → h'.get? s.heap.objs.size = some o → (∀ b u, s.heap.get? b = some u → h'.get? b = some u) → Q (.ref (s.heap.objs.size + 1)) { s with heap := h' }) :
    wpAny (model prog w) A (call (.type "enumerate") [v]) Q E s := by
  refine callType_new F.called_enumerate (by decide) (F.typeCall_enumerate_1 _) (F.newCall_enumerate_1 _) (fun obj => F.args_object_init_2 obj _) F.entry_enumerate_new (zto B) ⟨h1, ?_⟩
  have hz : (s.heap.push o).objs.size = s.heap.objs.size + 1 := Heap.size_push ..
  have he : IsEnum ((s.heap.push o).push { cls := .type "enumerate", data := .fields #[.none, .bool false, .ref s.heap.objs.size, rawInt 0, .none, .none] }) (s.heap.objs.size + 1) s.heap.objs.size 0 .none := by
    have q := Heap.get?_push_size (s.heap.push o) (o := { cls := .type "enumerate", data := .fields #[.none, .bool false, .ref s.heap.objs.size, rawInt 0, .none, .none] }) rfl
    rw [hz] at q; exact q
  show _ ∧ _
  rw [hz]
  exact ⟨⟨_, he, rfl⟩, h _ he (Heap.get?_push_of_some _ (Heap.get?_push_size _ B.free)) fun b u x => Heap.get?_push_of_some _ (Heap.get?_push_of_some _ x)⟩
section
variable {X : Cx}
theorem zq4 [Bs] {e : Expr} {T : DTA} {p pos tpos : Pos} {elts : List Expr} {kk : Nat} (hm : X.mg "enumerate" = none) (ha : PAD X [e] T) (hg : Gl X "enumerate" := by rfl) (hs : starEach [e] X.env = [(false, eval e X.env)] := by rfl) :
    PID X (.Tuple elts kk tpos) (.Call (.Name "enumerate" p) [e] [] pos) (zpc T) := by
  refine ⟨fun pins s σ H R I ⟨η, G, P, hs', hr, t, k⟩ => ?_⟩
  refine Call_ (ld_blt I hg hm boot_enumerate (PyProof.Rows.callWith_type1 (thn (ha.run pos pins s σ H (fun vs H1 => ∃ ds G1, (match ds with
    | [d] => (match d with
      | .nd .tup xs => P (zh0 xs) always G1
      | .nd .lst xs => P (zh0 xs) always G1
      | .nd .scr xs => P (zh0 xs) always G1
      | _ => False)
    | _ => False) ∧ Ext H G H1 G1 ∧ HR X.ml H1 G1 ∧ VRs X.ml H1 G1 ds vs) I ⟨η, G, _, hs', hr, t, fun ds G1 vs H1 p x r q => ⟨ds, G1, p, x, r, q⟩⟩) fun us s1 ⟨vs, H1, I1, r1, ds, G1, p, x, r, q⟩ => ?_) hs rfl))
  match ds, p, q with
  | [d], p, q =>
    obtain ⟨v, r', rfl, q1, q2⟩ := q.uncons
    cases q2.nil_of
    obtain ⟨u, rfl, ru⟩ := r1.one
    have fin2 : ∀ b, b ∈ [s1.heap.objs.size + 1, s1.heap.objs.size] → FpOk X pins H1 b := fun b hb => by
      have hle : s1.heap.objs.size ≤ b := by
        rcases (by simpa using hb : b = s1.heap.objs.size + 1 ∨ b = s1.heap.objs.size) with z | z <;> omega
      exact I1.fpOk hle (I1.hok.fresh hle)
    have doL : ∀ (a : Addr) (ws : List V) (xs : List D), v = .ref a → SqL X.K H1 a ws → (∀ H G, Ext H1 G1 H G → HR X.ml H G → ∃ vs, SqL X.K H a vs ∧ VRs X.ml H G xs vs) → P (zh0 xs) always G1 →
        wpAny (model X.prog X.w) X.A (call (.type "enumerate") [u]) (fun v s1 => wpAny (model X.prog X.w) X.A (pyIter v) (PIE X pins σ (.Tuple elts kk tpos) R) X.xe s1) X.xe s1 := by
      intro a ws xs e hq hh p
      subst e
      cases ru
      obtain ⟨its, rv, p', hz⟩ := I1.list hq
      refine call_enumerate_list p'.isList fun h' he hit hsz hk => wpAny_pyIter_enum he ?_
      have I2 : Inv X pins σ H1 { s1 with heap := h' } := I1.kept (t' := s1.toks) hk
      exact ⟨s1.heap.objs.size + 1, [s1.heap.objs.size + 1, s1.heap.objs.size], _, _, H1, rfl, I2, turn_enum a (s1.heap.objs.size + 1) s1.heap.objs.size, ⟨⟨.none, he⟩, hit, Nat.succ_ne_self _⟩, fin2, k _ _ G1 _ H1 p x r (Ite.itD hh)⟩
    cases d with
    | nd kd xs =>
      rw [VR] at q1
      obtain ⟨a, ws, e, hq, vr⟩ := q1
      cases kd with
      | tup =>
        subst e
        cases ru
        obtain ⟨its, rv, p', hz⟩ := I1.tuple hq
        have p2 : s1.heap.IsTuple a its.toArray := p'
        have hal : a < s1.heap.objs.size := by obtain ⟨_, z, _⟩ := p2; exact Heap.lt_size z
        refine zt7 (begins_tuple a its.toArray) p2 fun h' he hit hk => wpAny_pyIter_enum he ?_
        have I2 : Inv X pins σ H1 { s1 with heap := h' } := I1.kept (t' := s1.toks) hk
        exact ⟨s1.heap.objs.size + 1, [s1.heap.objs.size + 1, s1.heap.objs.size], _, _, H1, rfl, I2, zue a (s1.heap.objs.size + 1) s1.heap.objs.size (Nat.ne_of_lt hal), ⟨⟨.none, he⟩, ⟨_, hit, rfl, rfl⟩, Nat.succ_ne_self _, Nat.ne_of_gt (Nat.lt_succ_of_lt hal)⟩, fin2,
          k _ _ G1 _ H1 p x r (IteT.itD fun H' G' x' r' => ⟨ws, Held.ext (k := .tup) r x' hq, vr.ext r x'⟩)⟩
      | lst => exact doL a ws xs e (zc6 hq (.inl rfl)) (fun H' G' x' r' => ⟨ws, zc6 (hq.ext r x') (.inl rfl), vr.ext r x'⟩) p
      | scr => exact doL a ws xs e (zc6 hq (.inr rfl)) (fun H' G' x' r' => ⟨ws, zc6 (hq.ext r x') (.inr rfl), vr.ext r x'⟩) p
      | _ => exact p.elim
    | _ => exact p.elim
  | [], p, _ => exact p.elim
  | _ :: _ :: _, p, _ => exact p.elim
end
end DL
namespace DL
open PySem PySem.Spec PyProof.Rows L2
end DL
namespace DL
open PySem PySem.Spec PyProof.Rows L2
section
variable {X : Cx}
def ztj (T : DTE) (R : DTA) : DTA := fun η G Q => T η G fun d G1 => match d with
  | .nd .tup xs => R η G1 fun ds G2 => Q (xs ++ ds) G2
  | .nd .lst xs => R η G1 fun ds G2 => Q (xs ++ ds) G2
  | _ => False
theorem zrp [Bs] {e : Expr} {es : List Expr} {T : DTE} {R : DTA} {p : Pos} (ha : PED X e T) (hb : PAD X es R) (hs : starEach (.Starred e p :: es) X.env = (true, eval e X.env) :: starEach es X.env := by rfl) : PAD X (.Starred e p :: es) (ztj T R) :=
  PA.impI (StX.pa_star ha hb hs) fun pins s σ H Q I ⟨η, G, P, hs, hr, t, k⟩ =>
    ⟨η, G, _, hs, hr, t, fun d1 G1 v1 H1 p1 x1 r1 q1 => by
      split at p1
      · rename_i xs
        rw [VR] at q1
        obtain ⟨a, vs, rfl, ha, va⟩ := q1
        exact ⟨a, vs, rfl, .inl ha, η, G1, _, hs.ext hr x1, r1, p1, fun ds G2 ws H2 p2 x2 r2 q2 => k (xs ++ ds) G2 (vs ++ ws) H2 p2 (x1.trans x2) r2 ((va.ext r1 x2).append q2)⟩
      · rename_i xs
        rw [VR] at q1
        obtain ⟨a, vs, rfl, ha, va⟩ := q1
        exact ⟨a, vs, rfl, .inr (zc6 ha (.inl rfl)), η, G1, _, hs.ext hr x1, r1, p1, fun ds G2 ws H2 p2 x2 r2 q2 => k (xs ++ ds) G2 (vs ++ ws) H2 p2 (x1.trans x2) r2 ((va.ext r1 x2).append q2)⟩
      · exact p1.elim⟩
end
end DL
namespace DL
open PySem PySem.Spec PyProof.Rows L2
end DL
namespace DL
open PySem PySem.Spec PyProof.Rows L2
section
variable {β : Type}
abbrev kI (i : Int) : Key := Sum.inl i
theorem zwd {a b : Int} : kI a = kI b ↔ a = b := ⟨fun h => by injection h, fun h => by rw [h]⟩
abbrev oK (f : β → D) (kvs : List (Int × β)) : DO := .dK (enc kI f kvs)
variable {f : β → D} {kvs : List (Int × β)} {G : DHp} {Q : DVK} {a : Int}
end
end DL
namespace DL
open PySem PySem.Spec PyProof.Rows L2
/-- the lists that stand in a list, each changed no more -/
def frL : List D → DHp → Option (List D × DHp)
  | [], G => some ([], G)
  | d :: ds, G => match d with
    | .ref p => (match G p with
      | some (.lst es) => (match frL ds (dl G p) with
        | some (x, G') => some (.nd .lst es :: x, G')
        | none => none)
      | _ => none)
    | _ => none
end DL
namespace DL
open PySem PySem.Spec PyProof.Rows L2
/-- what else is tracked, then the draws -/
abbrev Gw (G : DHp) (a : Addr) (ns : List Int) (c : Int) : DHp := up G a (drw ns c)
theorem zwe {G : DHp} {a p : Addr} {ns : List Int} {c : Int} {o : DO} (h : Gw G a ns c p = none) : up (Gw G a ns c) p o = Gw (up G p o) a ns c ∧ a ≠ p := by
  have hn : a ≠ p := fun e => by
    subst e
    rw [show Gw G a ns c a = some (drw ns c) from zg] at h
    cases h
  exact ⟨(zgr hn), hn⟩
theorem ztk {G : DHp} {a p : Addr} {ns : List Int} {c : Int} (hn : a ≠ p) (h : Gw G a ns c p = none) : G p = none := by
  rw [show Gw G a ns c p = G p from zdy (Ne.symm hn)] at h
  exact h
theorem zx7 {G : DHp} {a p : Addr} {ns : List Int} {c : Int} {o : DO} (hn : a ≠ p) (h : G p = none) : dl (Gw (up G p o) a ns c) p = Gw G a ns c := by
  show dl (up (up G p o) a _) p = _
  rw [zn1 hn, zaz h]
theorem zvg {G : DHp} {a p : Addr} {ns : List Int} {c : Int} {o o' : DO} (hn : a ≠ p) : up (Gw (up G p o) a ns c) p o' = Gw (up G p o') a ns c := by
  show up (up (up G p o) a _) p o' = _
  rw [zgr (a := a) (b := p) hn, zfl]
theorem zsf {G : DHp} {a p : Addr} {ns : List Int} {c : Int} {o : DO} (hn : a ≠ p) : Gw (up G p o) a ns c p = some o := by
  show up (up G p o) a _ p = _
  rw [zdy (Ne.symm hn), zg]
theorem zmu {G : DHp} {a : Addr} {ns : List Int} {c n : Int} {Q : DVK} (hn : 0 < n) (hl : ns.length ≤ 63) (q : ∀ r : Int, 0 ≤ r → r < n → Q (.int r) (Gw G a ns (c + 1))) : zap [.ref a, .int n] (Gw G a ns c) Q :=
  zuh hn hl zg fun r h0 h1 => by rw [zfl]; exact q r h0 h1
theorem zht {x y : D} {xs ys : List D} {G : DHp} {Q : DVK} (h1 : der x G = .nd .lst xs) (h2 : der y G = .nd .lst ys) (hl : xs.length + ys.length ≤ sizeLine) (q : Q (.nd .lst (xs ++ ys)) G) : dAdd x y G Q := by
  unfold dAdd
  rw [h1, h2]
  exact ⟨hl, q⟩
theorem zij {p : Addr} {y : D} {xs ys : List D} {G : DHp} {Q : DVK} (h1 : G p = some (.lst xs)) (h2 : der y G = .nd .lst ys) (hl : xs.length + ys.length ≤ sizeLine) (q : Q (.ref p) (up G p (.lst (xs ++ ys)))) : zjw (.ref p) y G Q := by
  show onL (.ref p) G fun a ds => (match der y G with | .nd .lst es => ds.length + es.length ≤ sizeLine ∧ Q (.ref a) (up G a (.lst (ds ++ es))) | _ => False)
  refine zwb h1 ?_
  rw [h2]
  exact ⟨hl, q⟩
theorem zf1 {n : Nat} (h : n ≤ 1000000) : n ≤ sizeLine := Nat.le_of_lt (zax h)
theorem zla {α : Type} [DecidableEq α] : ∀ {ys xs : List α}, ys.Nodup → (∀ y ∈ ys, y ∈ xs) → ys.length ≤ xs.length
  | [], _, _, _ => Nat.zero_le _
  | y :: ys, xs, hn, h => by
    rw [List.nodup_cons] at hn
    have hy := h y (by simp)
    have := zla (ys := ys) (xs := xs.erase y) hn.2 fun z hz => (List.mem_erase_of_ne (show z ≠ y from fun e => hn.1 (e ▸ hz))).mpr (h z (by simp [hz]))
    rw [List.length_erase_of_mem hy] at this
    have := List.length_pos_of_mem hy
    rw [List.length_cons]
    omega
theorem zn8 {d : D} {ds : List D} {G : DHp} {Q : DVK} (h : sqD d G = some ds) : zk7 [d] G Q = Q (.nd .tup ds) G := by
  unfold zk7 d1
  simp only [h]
theorem zbt {α : Type} {l : List α} {i : Nat} {x : α} (h : l[i]? = some x) : l.take (i + 1) = l.take i ++ [x] := by
  rw [List.take_add_one, h]; rfl
/-- an item of a list or a tuple that stays -/
theorem zk9 {α : Type} {f : α → D} {xs : List α} {i : Int} {x : α} {G : DHp} {Q : DVK} (h0 : 0 ≤ i) (e : xs[i.toNat]? = some x) (q : Q (f x) G) : dIx (eL f xs) (.int i) G Q := by
  show atD (xs.map f) (.int i) fun d => Q d G
  exact zkp h0 (by rw [List.getElem?_map, e]; rfl) q
theorem ztd {α : Type} {f : α → D} {xs : List α} {i : Int} {x : α} {G : DHp} {Q : DVK} (h0 : 0 ≤ i) (e : xs[i.toNat]? = some x) (q : Q (f x) G) : dIx (eT f xs) (.int i) G Q := by
  show atD (xs.map f) (.int i) fun d => Q d G
  exact zkp h0 (by rw [List.getElem?_map, e]; rfl) q
/-- a list is not empty: of plain things with short depth -/
theorem zth {x : D} {xs : List D} {G : DHp} {Q : DVK} (h : der x G = .nd .lst xs) (hc : cleans xs = true) (hd : ∀ d ∈ xs, (py d).depth ≤ 60) (q : Q (.bl (!xs.isEmpty)) G) : dNe x (.nd .lst []) G Q := by
  refine zor (by rw [h]; rw [zah]; exact hc) rfl (by rw [h]; exact Nat.le_trans (zkh hd) (by decide)) (by show (py (.nd .lst [])).depth ≤ 64; rw [py, pys]; decide) _ ?_ q
  rw [h]
  cases xs with
  | nil => simp [der]
  | cons d ds => simp [der]
theorem zqv {p : Addr} {d : D} {ds : List D} {G : DHp} {Q : DVK} (h : G p = some (.lst (ds ++ [d]))) (q : Q d (up G p (.lst ds))) : tyD "list" (.ref p) G ∧ dPop [.ref p] G Q := by
  refine ⟨by simp only [tyD, h], ?_⟩
  have e : (ds ++ [d])[(ds ++ [d]).length - 1]? = some d := by simp
  simp only [dPop, d1, onL, h, e, List.dropLast_concat]
  exact q
end DL
namespace DL
open PySem PySem.Spec PyProof.Rows L2
end DL
namespace DL
open PySem PySem.Spec PyProof.Rows L2
/-- [y for x in xs if ..]: what is told of one x, pure, is told of all -/
theorem zfi {wi : DTI} {g : DTG} {tt : DTT} {te : DTE} {own : List Nat} {η : DSt} {G : DHp} {Q : DVK} {α : Type} {xs : List α} {f : α → D} (fb : α → Bool) (h : α → D) (hl : xs.length ≤ 1000000)
    (hw : ∀ R, R (xs.map f) always G → wi η G R)
    (hb : ∀ x ∈ xs, ∀ (G1 : DHp) (A : DVK) (B : DHp → Prop), (fb x = true → A (h x) G1) → (fb x = false → B G1) → g (f x) (zc3 η own) G1 fun η2 G2 => tt η2 G2 fun b G3 => if b = true then te η2 G3 A else B G3)
    (q : ∀ p, G p = none → Q (.ref p) (up G p (.lst ((xs.filter fb).map h)))) : dLc wi g tt te own η G Q := by
  refine hw _ ?_
  intro p hp
  refine ⟨fun i acc G' => acc = ((xs.take i).filter fb).map h ∧ G' = up G p (.lst acc), ⟨rfl, rfl⟩, ?_, ?_, ?_⟩
  · rintro i acc G' ⟨rfl, rfl⟩
    exact ⟨trivial, zg⟩
  · rintro i d acc G' hd ⟨rfl, rfl⟩
    obtain ⟨x, hx, rfl⟩ := zcn hd
    refine hb x (List.mem_of_getElem? hx) _ _ _ (fun e => ⟨zax ?_, zg, ?_, by rw [zfl]⟩) fun e => ⟨?_, rfl⟩
    · rw [List.length_map]
      refine Nat.le_trans (List.length_filter_le _ _) ?_
      rw [List.length_take]
      omega
    · rw [zbt hx, List.filter_append, List.map_append]
      simp [e]
    · rw [zbt hx, List.filter_append, List.map_append]
      simp [e]
  · rintro acc G' ⟨rfl, rfl⟩
    rw [List.length_map, List.take_length]
    exact q p hp
/-- [y for x in xs] -/
theorem zg0 {wi : DTI} {g : DTG} {te : DTE} {own : List Nat} {η : DSt} {G : DHp} {Q : DVK} {α : Type} {xs : List α} {f : α → D} (h : α → D) (hl : xs.length ≤ 1000000)
    (hw : ∀ R, R (xs.map f) always G → wi η G R)
    (hb : ∀ x ∈ xs, ∀ (G1 : DHp) (A : DVK), A (h x) G1 → g (f x) (zc3 η own) G1 fun η2 G2 => te η2 G2 A)
    (q : ∀ p, G p = none → Q (.ref p) (up G p (.lst (xs.map h)))) : dLc wi g dYes te own η G Q := by
  refine zfi (f := f) (fun _ => true) h hl hw (fun x hx G1 A B a _ => ?_) fun p hp => ?_
  · have := hb x hx G1 A (a rfl)
    simpa only [dYes, if_true] using this
  · have := q p hp
    rwa [List.filter_eq_self.mpr fun _ _ => rfl]
theorem zs9 {α : Type} (f : α → D) (xs : List α) : zh0 (xs.map f) = (xs.mapIdx fun i x => ((i : Int), x)).map fun z => .nd .tup [.int z.1, f z.2] := by
  unfold zh0
  refine List.ext_getElem? fun i => ?_
  rw [List.getElem?_mapIdx, List.getElem?_map, List.getElem?_map, List.getElem?_mapIdx]
  cases xs[i]? <;> rfl
theorem zsm {α : Type} {xs : List α} {b : α → Bool} {G : DHp} {Q : DVK} (q : Q (.bl (xs.all b)) G) : dAll [.nd .lst (xs.map fun x => .bl (b x))] G Q := by
  refine ⟨xs.map b, ?_, ?_⟩
  · show some _ = some _
    rw [List.map_map]; rfl
  · rw [List.all_map]; exact q
end DL
namespace DL
open PySem PySem.Spec PyProof.Rows L2
end DL
namespace DL
open PySem PySem.Spec PyProof.Rows L2
end DL
namespace DL
open PySem PySem.Spec PyProof.Rows L2
end DL
namespace DL
open PySem PySem.Spec PyProof.Rows L2
end DL
namespace DL
open PySem PySem.Spec PyProof.Rows L2
end DL
namespace DL
open PySem PySem.Spec PyProof.Rows L2
end DL
namespace DL
open PySem PySem.Spec PyProof.Rows L2
def zi4 {κ : Type} [DecidableEq κ] (kvs : List (κ × D)) (k : κ) : List (κ × D) := kvs.filter fun p => decide (p.1 ≠ k)
def zy1 : DRn := d2 fun x y G Q => match x with
  | .ref a => (match G a with
    | some (.dK kvs) => (match y.kK with
      | some k => (match dval kvs k with
        | some d => Q d (up G a (.dK (zi4 kvs k)))
        | none => False)
      | none => False)
    | _ => False)
  | _ => False
end DL
namespace DL
open PySem PySem.Spec PyProof.Rows L2
section
variable {β : Type} {f : β → D} {kvs : List (Int × β)} {G : DHp} {Q : DVK} {a : Int}
def zxj {α β : Type} [DecidableEq α] (kvs : List (α × β)) (a : α) : List (α × β) := kvs.filter fun p => decide (p.1 ≠ a)
theorem zs2 (kvs : List (Int × β)) (a : Int) : zi4 (enc kI f kvs) (kI a) = enc kI f (zxj kvs a) := by
  unfold zi4 enc zxj
  rw [List.filter_map]
  congr 1
  refine List.filter_congr fun p _ => ?_
  simp only [Function.comp, ne_eq, zwd]
theorem zkf {p : Addr} {b : β} (h : G p = some (oK f kvs)) (hb : aget kvs a = some b) (q : Q (f b) (up G p (oK f (zxj kvs a)))) : zy1 [.ref p, .int a] G Q := by
  show (match G p with | some (.dK kvs) => _ | _ => False)
  rw [h]
  show (match dval (enc kI f kvs) (kI a) with | some d => _ | none => False)
  rw [znr zwd, hb]
  show Q (f b) (up G p (.dK (zi4 (enc kI f kvs) (kI a))))
  rw [zs2]
  exact q
end
end DL
namespace DL
open PySem PySem.Spec PyProof.Rows L2
end DL
namespace DL
open PySem PySem.Spec PyProof.Rows L2
section
variable {X : Cx}
def zq3 : DRn := d1 fun d G Q => match d with
  | .nd .tup ds => (plainDs ds = true ∧ PySem.W.AllAlike (ds.map py) ∧ PySem.W.Sortable (ds.map py) ∧ ∀ d ∈ ds, (py d).depth ≤ 60) ∧ ∀ p, G p = none → Q (.ref p) (up G p (.lst (srt ds)))
  | _ => False
theorem zrq (hu : X.A.units + 64 < cLine) : zfj X (.builtin "sorted") zq3 := zgy fun pins s σ H G x v d P I rx hr q1 t => by
  split at t
  · rename_i ds
    obtain ⟨⟨p1, p2, p3, p4⟩, t⟩ := t
    rw [VR] at q1
    obtain ⟨a, vs, rfl, hq, r⟩ := q1
    cases (show v = Value.ref a from rx)
    obtain ⟨its, rv, pl, hz⟩ := I.tuple hq
    obtain ⟨⟨cls, dd, data, sl⟩, ho0, hc0, n, hd0⟩ := id pl
    simp only at hc0 hd0
    subst hc0 hd0
    have hlen : its.length ≤ sizeLine := by rw [← rv.length]; exact hz
    refine Calls.call_function_entry PyProof.Rows.kind_sorted PyProof.Rows.plain_sorted PyProof.Rows.entry_sorted (PyProof.Rows.args_sorted1 _) ?_
    unfold Builtin.«sorted»
    refine wpAny_bind (m := checkCount "sorted" 1 1 _) (wpAny_pure ?_)
    refine wpAny_bind (wpAny_collect_seq (A := X.A.in1) a (.inr rfl) ho0 rfl rfl (fun h' hk => ?_) (by rw [List.size_toArray]; exact hlen))
    have I1 : Inv X pins σ H { s with heap := h' } := I.kept (t' := s.toks) hk
    refine wpAny_bind (wpAny_newList ?_ (by simpa using hlen))
    have hoL : (h'.push (seqObj "list" its.toArray 0)).get? h'.objs.size = some (seqObj "list" its.toArray 0) := Heap.get?_push_size _ rfl
    show wpAny _ _ _ _ _ { s with heap := h'.push (seqObj "list" its.toArray 0) }
    have er : PySem.W.EachIs (fun v b => ∃ rs, Reads (h'.push (seqObj "list" its.toArray 0)) v (py b) rs ∧ h'.objs.size ∉ rs) its ds := (zhm I1 r rv p1).mono fun u b ⟨l, rd⟩ => ⟨l, PyProof.Rows.Reads.keeps (fun b o q => Heap.get?_push_of_some _ q) rd, fun hm => by
      obtain ⟨o, ho⟩ := PyProof.On.reads_mem_get rd _ hm
      exact absurd (Heap.lt_size ho) (Nat.lt_irrefl _)⟩
    have hlen2 : ds.length ≤ sizeLine := by rw [← r.length]; exact hz
    refine wpAny_bind (wpAny_holding (PySem.W.list_sort_data (s := { s with heap := h'.push (seqObj "list" its.toArray 0) }) (R := fun u d => ∃ v, RelV v u ∧ VR X.ml H G d v) (enc := py) (bs := ds) hoL (zqf r rv) er p2 p3 hlen2 (fun b hb => by have := p4 b hb; show X.A.units + 1 + 1 + _ < _; omega) fun out ho eo => ?_))
    obtain ⟨ws, rw', qs'⟩ := zki eo
    obtain ⟨e', he'⟩ := PyProof.Rows.sortedHeap_at (vs := its) (out := List.toArray out) hoL
    have hp : H h'.objs.size = none := I1.hok.fresh (Nat.le_refl _)
    have x3 : Ext H G (upd H h'.objs.size (.lst ws)) (up G h'.objs.size (.lst (srt ds))) := .new hp
    refine wpAny_pure ⟨_, rfl, .ref h'.objs.size, .ref h'.objs.size, upd H h'.objs.size (.lst ws), _, I1.laid (t' := s.toks) (fun b u e => ?_) (Nat.le_refl _)
      (show ObjOk X.prog X.w _ _ _ (.lst ws) from ⟨by rw [rw'.length, ho]; exact hlen2, out, e', rw', he'⟩), rfl, t _ (hr.free hp), x3, hr.new hp ⟨ws, upd_same, qs'.ext hr x3⟩, by rw [VR]⟩
    have hb : b < h'.objs.size := Heap.lt_size e
    rw [PyProof.Rows.sortedHeap_old (Nat.ne_of_lt hb) (by rw [size_push']; exact Nat.lt_succ_of_lt hb)]
    exact Heap.get?_push_of_some _ e
  · exact t.elim
end
end DL
namespace DL
open PySem PySem.Spec PyProof.Rows L2
end DL
namespace DL
open PySem PySem.Spec PyProof.Rows L2
end DL
namespace DL
open PySem PySem.Spec PyProof.Rows L2
end DL
namespace DL
open PySem PySem.Spec PyProof.Rows L2
def Gext (G G1 : DHp) : Prop := ∀ q o, G q = some o → G1 q = some o
/-- [y for x in xs if ..]: what is told of one x, pure, is told of all; what lies in the heap lies there yet -/
theorem zsl {wi : DTI} {g : DTG} {tt : DTT} {te : DTE} {own : List Nat} {η : DSt} {G : DHp} {Q : DVK} {α : Type} {xs : List α} {f : α → D} (fb : α → Bool) (h : α → D) (hl : xs.length ≤ 1000000)
    (hw : ∀ R, R (xs.map f) always G → wi η G R)
    (hb : ∀ x ∈ xs, ∀ (G1 : DHp) (A : DVK) (B : DHp → Prop), Gext G G1 → (fb x = true → A (h x) G1) → (fb x = false → B G1) → g (f x) (zc3 η own) G1 fun η2 G2 => tt η2 G2 fun b G3 => if b = true then te η2 G3 A else B G3)
    (q : ∀ p, G p = none → Q (.ref p) (up G p (.lst ((xs.filter fb).map h)))) : dLc wi g tt te own η G Q := by
  refine hw _ ?_
  intro p hp
  refine ⟨fun i acc G' => acc = ((xs.take i).filter fb).map h ∧ G' = up G p (.lst acc), ⟨rfl, rfl⟩, ?_, ?_, ?_⟩
  · rintro i acc G' ⟨rfl, rfl⟩
    exact ⟨trivial, zg⟩
  · rintro i d acc G' hd ⟨rfl, rfl⟩
    obtain ⟨x, hx, rfl⟩ := zcn hd
    refine hb x (List.mem_of_getElem? hx) _ _ _ (fun q o e => by rw [zdy (ztp e hp)]; exact e) (fun e => ⟨zax ?_, zg, ?_, by rw [zfl]⟩) fun e => ⟨?_, rfl⟩
    · rw [List.length_map]
      refine Nat.le_trans (List.length_filter_le _ _) ?_
      rw [List.length_take]
      omega
    · rw [zbt hx, List.filter_append, List.map_append]
      simp [e]
    · rw [zbt hx, List.filter_append, List.map_append]
      simp [e]
  · rintro acc G' ⟨rfl, rfl⟩
    rw [List.length_map, List.take_length]
    exact q p hp
end DL
namespace DL
open PySem PySem.Spec PyProof.Rows L2
end DL
namespace DL
open PySem PySem.Spec PyProof.Rows L2
end DL
namespace DL
open PySem PySem.Spec PyProof.Rows L2
end DL
namespace DL
open PySem PySem.Spec PyProof.Rows L2
theorem zl0 (kx vx t0 i0 t1 i1 : Expr) (ifs0 ifs1 : List Expr) (scope : Scope) (pos : Pos) (it : Value) (D : Addr) (env : Env) :
    compTurn (.DictComp kx vx [⟨t0, i0, ifs0, 0⟩, ⟨t1, i1, ifs1, 0⟩] scope pos) 0 it (.ref D) env = (do
      standAt i0.pos
      match ← pyNext it with
      | none => pure (.done .next)
      | some v =>
        letOwnedTupleGo t0 it v
        assign t0 env v
        let mut ok := true
        for c in ifs0 do
          if ok then ok ← isTrue c env (eval c env)
        if ok then
          let x ← eval i1 env
          standAt i1.pos
          let x ← foldedSetIterable i1 env x
          let _ ← runOwn (.compStart (.DictComp kx vx [⟨t0, i0, ifs0, 0⟩, ⟨t1, i1, ifs1, 0⟩] scope pos) 1 (← holding [x] (pyIter x)) (.ref D) env) env
        again (.compLoop (.DictComp kx vx [⟨t0, i0, ifs0, 0⟩, ⟨t1, i1, ifs1, 0⟩] scope pos) 0 it (.ref D) env)) := by rfl
theorem znp (kx vx t0 i0 t1 i1 : Expr) (ifs0 ifs1 : List Expr) (scope : Scope) (pos : Pos) (it : Value) (D : Addr) (env : Env) :
    compTurn (.DictComp kx vx [⟨t0, i0, ifs0, 0⟩, ⟨t1, i1, ifs1, 0⟩] scope pos) 1 it (.ref D) env = (do
      standAt i1.pos
      match ← pyNext it with
      | none => pure (.done .next)
      | some v =>
        letOwnedTupleGo t1 it v
        assign t1 env v
        let mut ok := true
        for c in ifs1 do
          if ok then ok ← isTrue c env (eval c env)
        if ok then
          (do
            let kv ← eval kx env
            let vv ← holding [kv] (eval vx env)
            standAt { kx.pos with endLine := vx.pos.endLine, endCol := vx.pos.endCol }
            holding [kv, vv] (dictSet D kv vv))
        again (.compLoop (.DictComp kx vx [⟨t0, i0, ifs0, 0⟩, ⟨t1, i1, ifs1, 0⟩] scope pos) 1 it (.ref D) env)) := by rfl
section
variable {prog : Program} {w : World} {A : Around} {R : Result → Shared → Prop} {s : Shared} {kx vx t0 i0 t1 i1 : Expr} {ifs0 ifs1 : List Expr} {scope : Scope} {pos : Pos} {it : Value} {D : Addr} {env : Env}
theorem zlw (hs : ∀ x, foldedSetIterable i1 env x = pure x) (I : Nat → Shared → Prop)
    (turn : ∀ n s, I n s → wpAny (model prog w) A (pyNext it) (fun r s₁ => match r with
      | none => R (.ok .next) s₁
      | some v => wpAny (model prog w) A (letOwnedTupleGo t0 it v) (fun _ s₁' => wpAny (model prog w) A (assign t0 env v) (fun _ s₂ =>
          wpAny (model prog w) A (forIn ifs0 true fun c r => if r = true then do let ok ← isTrue c env (eval c env); pure (ForInStep.yield ok) else pure (ForInStep.yield r)) (fun ok s₃ =>
            if ok = true then wpAny (model prog w) A (eval i1 env) (fun x s₄ => wpAny (model prog w) A (pyIter x) (fun it1 s₅ =>
              codeAny (model prog w) A (.compStart (.DictComp kx vx [⟨t0, i0, ifs0, 0⟩, ⟨t1, i1, ifs1, 0⟩] scope pos) 1 it1 (.ref D) env) (fun r s' => match r with
                | .ok _ => ∃ m, m < n ∧ I m s'
                | .error _ => False) s₅) (notedBy (model prog w) A env fun e s' => R (.error e) s') s₄) (notedBy (model prog w) A env fun e s' => R (.error e) s') s₃
            else ∃ m, m < n ∧ I m s₃) (notedBy (model prog w) A env fun e s' => R (.error e) s') s₂) (notedBy (model prog w) A env fun e s' => R (.error e) s') s₁') (notedBy (model prog w) A env fun e s' => R (.error e) s') s₁) (notedBy (model prog w) A env fun e s' => R (.error e) s') s)
    (n : Nat) (h : I n s) :
    codeAny (model prog w) A (.compLoop (.DictComp kx vx [⟨t0, i0, ifs0, 0⟩, ⟨t1, i1, ifs1, 0⟩] scope pos) 0 it (.ref D) env) R s := by
  refine codeAny_loop rfl I (fun n s hI => ?_) n h
  show wpAny _ A ((compTurn (.DictComp kx vx [⟨t0, i0, ifs0, 0⟩, ⟨t1, i1, ifs1, 0⟩] scope pos) 0 it (.ref D) env).onRaise (fun x => do noteFrame x env; theTreesLotGoes x)) _ _ s
  refine wpAny_noted ?_
  rw [zl0]
  refine wpAny_bind (wpAny_standAt (wpAny_bind (wpAny_mono (turn n s hI) (fun r s₁ h₁ => ?_) fun _ _ h' => h')))
  cases r with
  | none => exact wpAny_pure h₁
  | some v =>
    refine wpAny_bind (wpAny_mono h₁ (fun _ s₁' h₁' => ?_) fun _ _ h' => h')
    refine wpAny_bind (wpAny_mono h₁' (fun _ s₂ h₂ => wpAny_bind (wpAny_mono h₂ (fun ok s₃ h₃ => ?_) fun _ _ h' => h')) fun _ _ h' => h')
    cases ok with
    | false => exact wpAny_pure ⟨rfl, h₃⟩
    | true =>
      refine wpAny_bind (wpAny_mono h₃ (fun x s₄ h₄ => ?_) fun _ _ h' => h')
      refine wpAny_bind (wpAny_standAt (wpAny_bind (wpAny_of_eq (hs x) (wpAny_bind (wpAny_holding (wpAny_mono h₄ (fun it1 s₅ h₅ => ?_) fun _ _ h' => h'))))))
      refine wpAny_bind (wpAny_runOwn ?_)
      rw [Around.mark_none]
      refine codeAny_mono h₅ fun r s' hr => ?_
      cases r with
      | ok f =>
        first
          | exact wpAny_pure ⟨rfl, hr⟩
          | exact wpAny_bind (wpAny_pure (wpAny_pure ⟨rfl, hr⟩))
      | error e => exact hr.elim
theorem zmx (I : Nat → Shared → Prop)
    (turn : ∀ n s, I n s → wpAny (model prog w) A (pyNext it) (fun r s₁ => match r with
      | none => R (.ok .next) s₁
      | some v => wpAny (model prog w) A (letOwnedTupleGo t1 it v) (fun _ s₁' => wpAny (model prog w) A (assign t1 env v) (fun _ s₂ =>
          wpAny (model prog w) A (forIn ifs1 true fun c r => if r = true then do let ok ← isTrue c env (eval c env); pure (ForInStep.yield ok) else pure (ForInStep.yield r)) (fun ok s₃ =>
            if ok = true then wpAny (model prog w) A (eval kx env) (fun kv s₄ => wpAny (model prog w) A (eval vx env) (fun vv s₅ =>
              wpAny (model prog w) A (dictSet D kv vv) (fun _ s₆ => ∃ m, m < n ∧ I m s₆) (notedBy (model prog w) A env fun e s' => R (.error e) s') s₅) (notedBy (model prog w) A env fun e s' => R (.error e) s') s₄) (notedBy (model prog w) A env fun e s' => R (.error e) s') s₃
            else ∃ m, m < n ∧ I m s₃) (notedBy (model prog w) A env fun e s' => R (.error e) s') s₂) (notedBy (model prog w) A env fun e s' => R (.error e) s') s₁') (notedBy (model prog w) A env fun e s' => R (.error e) s') s₁) (notedBy (model prog w) A env fun e s' => R (.error e) s') s)
    (n : Nat) (h : I n s) :
    codeAny (model prog w) A (.compLoop (.DictComp kx vx [⟨t0, i0, ifs0, 0⟩, ⟨t1, i1, ifs1, 0⟩] scope pos) 1 it (.ref D) env) R s := by
  refine codeAny_loop rfl I (fun n s hI => ?_) n h
  show wpAny _ A ((compTurn (.DictComp kx vx [⟨t0, i0, ifs0, 0⟩, ⟨t1, i1, ifs1, 0⟩] scope pos) 1 it (.ref D) env).onRaise (fun x => do noteFrame x env; theTreesLotGoes x)) _ _ s
  refine wpAny_noted ?_
  rw [znp]
  refine wpAny_bind (wpAny_standAt (wpAny_bind (wpAny_mono (turn n s hI) (fun r s₁ h₁ => ?_) fun _ _ h' => h')))
  cases r with
  | none => exact wpAny_pure h₁
  | some v =>
    refine wpAny_bind (wpAny_mono h₁ (fun _ s₁' h₁' => ?_) fun _ _ h' => h')
    refine wpAny_bind (wpAny_mono h₁' (fun _ s₂ h₂ => wpAny_bind (wpAny_mono h₂ (fun ok s₃ h₃ => ?_) fun _ _ h' => h')) fun _ _ h' => h')
    cases ok with
    | false => exact wpAny_pure ⟨rfl, h₃⟩
    | true =>
      exact wpAny_bind (wpAny_bind (wpAny_mono h₃ (fun kv s₄ h₄ => wpAny_bind (wpAny_holding (wpAny_mono h₄ (fun vv s₅ h₅ => wpAny_bind (wpAny_standAt (wpAny_holding (wpAny_mono h₅ (fun _ s₆ h₆ => wpAny_pure ⟨rfl, h₆⟩) fun _ _ h' => h')))) fun _ _ h' => h'))) fun _ _ h' => h'))
theorem zlu (h0 : codeAny (model prog w) A (.compLoop (.DictComp kx vx [⟨t0, i0, ifs0, 0⟩, ⟨t1, i1, ifs1, 0⟩] scope pos) 1 it (.ref D) env) R s)
    (h : wpAny (model prog w) A (pyIter it) (fun it' s' => codeAny (model prog w) A (.compLoop (.DictComp kx vx [⟨t0, i0, ifs0, 0⟩, ⟨t1, i1, ifs1, 0⟩] scope pos) 1 it' (.ref D) env) R s')
      (notedBy (model prog w) A env fun x s' => R (.error x) s') s) :
    codeAny (model prog w) A (.compStart (.DictComp kx vx [⟨t0, i0, ifs0, 0⟩, ⟨t1, i1, ifs1, 0⟩] scope pos) 1 it (.ref D) env) R s := by
  refine codeAny_of_tree ?_
  show wpAny _ _ ((compStart (.DictComp kx vx [⟨t0, i0, ifs0, 0⟩, ⟨t1, i1, ifs1, 0⟩] scope pos) 1 it (.ref D) env).onRaise (fun x => do noteFrame x env; standAt theWindowsPlace)) _ _ s
  refine wpAny_notedAt ?_
  unfold compStart
  show wpAny _ _ (ask >>= _) _ _ s
  refine wpAny_bind (wpAny_askSetting (wpAny_ite ?_))
  split
  · first
      | exact wpAny_bind (wpAny_pure (wpAny_pure (And.intro rfl h0)))
      | exact wpAny_pure (And.intro rfl h0)
  · first
      | exact wpAny_bind (wpAny_rule (wpAny_bind (wpAny_standAt (wpAny_bind (wpAny_mono h (fun it' s' h' => wpAny_pure (And.intro rfl h')) fun _ _ x => x)))))
      | (refine wpAny_bind (wpAny_rule ?_); show wpAny _ _ (standAt i1.pos >>= _) _ _ s; exact wpAny_bind (wpAny_standAt (wpAny_bind (wpAny_mono h (fun it' s' h' => wpAny_pure (And.intro rfl h')) fun _ _ x => x))))
end
section
variable {X : Cx}
def tDc2 (o0 : Addr → HO) (St : Addr → V → V → Hp → (Hp → Prop) → Prop) (wi : TI) (g : TG) (tt : TT) (wi1 : TI) (g1 : TG) (tt1 : TT) (tk tv : TE) (vs vs1 : List Nat) : TE := fun σ H Q => wi σ H fun J H1 => ∀ D, H1 D = none → (D == sysModules) = false → ∃ W : Nat → Nat → Hp → Prop, (∃ m, W 0 m (upd H1 D (o0 D))) ∧ ∀ i m H, W i m H →
  (J.stop i H ∧ Q (.ref D) H) ∨ (J.go i H ∧ ∃ Nx : Hp → Prop, (∀ H', Nx H' → ∃ m', m' < m ∧ W (i + 1) m' H') ∧ ∀ x H', J.yld i H x H' → g x (wipe σ vs) H' fun σ2 H2 => wipe σ2 vs = wipe σ vs ∧ tt σ2 H2 fun b H3 =>
    if b = true then wi1 σ2 H3 fun J1 H4 => ∃ W1 : Nat → Nat → Hp → Prop, (∃ m, W1 0 m H4) ∧ ∀ j k H, W1 j k H →
      (J1.stop j H ∧ Nx H) ∨ (J1.go j H ∧ ∃ Nx1 : Hp → Prop, (∀ H', Nx1 H' → ∃ k', k' < k ∧ W1 (j + 1) k' H') ∧ ∀ x H', J1.yld j H x H' → g1 x (wipe σ2 vs1) H' fun σ3 H5 => wipe σ3 vs1 = wipe σ2 vs1 ∧ tt1 σ3 H5 fun b H6 =>
        if b = true then tk σ3 H6 fun y H7 => tv σ3 H7 fun z H8 => St D y z H8 Nx1 else Nx1 H6)
    else Nx H3)
theorem zu9 {pins : List (Addr × Obj)} {s : Shared} {σ : L2.St} {H : Hp} {Q : VK} {kx vx tg iter tg1 iter1 : Expr} {ifs ifs1 : List Expr} {scope : Scope} {own : List (Str × Nat)} {vs1 : List Nat} {pos pos' : Pos} {o0 : Addr → HO} {St : Addr → V → V → Hp → (Hp → Prop) → Prop} {wi wi1 : TI} {g g1 : TG} {tt tt1 : TT} {tk tv : TE} {use : Option (Value → Sem Unit)} {Qf : Value → Shared → Prop}
    (hc : X.calm = true) (hN : X.N.Nodup) (I : Inv X pins σ H s) (hi : PI X tg iter wi) (ok : BlkOk X.N X.env.scope scope own) (hv : ∀ i ∈ vs1, i ∈ own.map (·.2))
    (hg : ∀ (s : Shared) (H : Hp) (C : Addr) (cl : List (Str × Addr)) (fp : List Addr), PG (X.blk s H scope (compEnvC scope cl C X.env) fp) tg g) (ht : ∀ (s : Shared) (H : Hp) (C : Addr) (cl : List (Str × Addr)) (fp : List Addr), PTs (X.blk s H scope (compEnvC scope cl C X.env) fp) ifs tt)
    (hk : ∀ (s : Shared) (H : Hp) (C : Addr) (cl : List (Str × Addr)) (fp : List Addr), PE (X.blk s H scope (compEnvC scope cl C X.env) fp) kx tk)
    (he : ∀ (s : Shared) (H : Hp) (C : Addr) (cl : List (Str × Addr)) (fp : List Addr), PE (X.blk s H scope (compEnvC scope cl C X.env) fp) vx tv) (hs : ∀ x, foldedSetIterable iter X.env x = pure x)
    (hi1 : ∀ (s : Shared) (H : Hp) (C : Addr) (cl : List (Str × Addr)) (fp : List Addr), PI (X.blk s H scope (compEnvC scope cl C X.env) fp) tg1 iter1 wi1)
    (hg1 : ∀ (s : Shared) (H : Hp) (C : Addr) (cl : List (Str × Addr)) (fp : List Addr), PG (X.blk s H scope (compEnvC scope cl C X.env) fp) tg1 g1)
    (ht1 : ∀ (s : Shared) (H : Hp) (C : Addr) (cl : List (Str × Addr)) (fp : List Addr), PTs (X.blk s H scope (compEnvC scope cl C X.env) fp) ifs1 tt1)
    (hs1 : ∀ env x, foldedSetIterable iter1 env x = pure x)
    (hnew : ∀ pins σ H s, Inv X pins σ H s → Inv X pins σ (upd H s.heap.objs.size (o0 s.heap.objs.size)) { s with heap := s.heap.push { cls := .type "dict", data := .dict #[] } }) (hst : ∀ (s : Shared) (H : Hp) (cenv : Env) (ws : List Addr), StOk (X.blk s H scope cenv ws) St)
    (h : tDc2 o0 St wi g tt wi1 g1 tt1 tk tv (own.map (·.2)) vs1 σ H Q)
    (hRR : ∀ D C s' m H', Inv X pins σ H' s' → Q (.ref D) H' → s'.heap.Ns C m → FpOk X pins H' C → compPost (model X.prog X.w) X.A X.xe use Qf (.ref D) C (.ok .next) s') :
    wpAny (model X.prog X.w) X.A (comprehension (.DictComp kx vx [⟨tg, iter, ifs, 0⟩, ⟨tg1, iter1, ifs1, 0⟩] scope pos) scope X.env pos' newDict false (eval iter X.env) use) Qf X.xe s := by
  have hfree : ∀ y ∈ scope.names, y.2 = .free → ∃ c, X.env.cells.lookup y.1 = some c := fun y hy e => by
    rcases ok.free y hy e with k | k
    · exact I.ok.has _ (.inl k)
    · exact I.ok.has _ (.inr k)
  refine wpAny_comprehension_free (use := use) rfl hs (closure_ok hfree) ok.kind (fun y hy e => by rw [ok.uniq y hy, e])
    (thn (hi.run pins s σ H _ I h) fun xv s1 hx => thn hx fun itv s2 h2 => ?_)
  obtain ⟨it, fp, tn, J, H2, e, I2, T, st2, f2, q⟩ := h2
  subst e
  refine wpAny_newObj_type (newEnv_comp ?_)
  generalize hD : s2.heap.objs.size = D
  have hDn : H2 D = none := I2.hok.fresh (Nat.le_of_eq hD)
  obtain ⟨W, ⟨m0, w0⟩, turn⟩ := q D hDn (by rw [← hD]; exact zwg I2)
  generalize hs3 : ({ s2 with heap := s2.heap.push { cls := .type "dict", data := .dict #[] } } : Shared) = s3
  have I3 : Inv X pins σ (upd H2 D (o0 D)) s3 := by
    rw [← hs3]
    rw [← hD]
    exact hnew pins σ H2 s2 I2
  have h3 : s3.heap = s2.heap.push { cls := .type "dict", data := .dict #[] } := by rw [← hs3]
  have sz : ∀ b ∈ fp, b < s2.heap.objs.size := fun b hb => by
    obtain ⟨o, e, _⟩ := T.obj _ _ st2 b hb
    exact Heap.lt_size e
  have f3 : ∀ b ∈ fp, FpOk X pins (upd H2 D (o0 D)) b ∧ b < s3.heap.objs.size := fun b hb => by
    have hlt := sz b hb
    refine ⟨⟨?_, (f2 b hb).2⟩, by rw [h3, Heap.size_push]; exact Nat.lt_succ_of_lt hlt⟩
    rw [upd_ne (by rw [← hD]; exact Nat.ne_of_lt hlt)]
    exact (f2 b hb).1
  have st3 : tn 0 s3.heap := T.keep _ _ _ st2 fun b _ o e => by rw [h3]; exact Heap.get?_push_of_some _ e
  have I4 := block_start I3 ok hN f3
  have pg := hg s3 (upd H2 D (o0 D)) s3.heap.objs.size (cellsFrom (s3.heap.objs.size + 1) scope.names (cloFrom X.env.cells scope.names [])) fp
  have pt := ht s3 (upd H2 D (o0 D)) s3.heap.objs.size (cellsFrom (s3.heap.objs.size + 1) scope.names (cloFrom X.env.cells scope.names [])) fp
  have pk := hk s3 (upd H2 D (o0 D)) s3.heap.objs.size (cellsFrom (s3.heap.objs.size + 1) scope.names (cloFrom X.env.cells scope.names [])) fp
  have pe := he s3 (upd H2 D (o0 D)) s3.heap.objs.size (cellsFrom (s3.heap.objs.size + 1) scope.names (cloFrom X.env.cells scope.names [])) fp
  have pi1 := hi1 s3 (upd H2 D (o0 D)) s3.heap.objs.size (cellsFrom (s3.heap.objs.size + 1) scope.names (cloFrom X.env.cells scope.names [])) fp
  have pg1 := hg1 s3 (upd H2 D (o0 D)) s3.heap.objs.size (cellsFrom (s3.heap.objs.size + 1) scope.names (cloFrom X.env.cells scope.names [])) fp
  have pt1 := ht1 s3 (upd H2 D (o0 D)) s3.heap.objs.size (cellsFrom (s3.heap.objs.size + 1) scope.names (cloFrom X.env.cells scope.names [])) fp
  show codeAny _ _ (.compStart (.DictComp kx vx [⟨tg, iter, ifs, 0⟩, ⟨tg1, iter1, ifs1, 0⟩] scope pos) 0 (.ref it) (.ref D) (compEnvC scope (cellsFrom (s3.heap.objs.size + 1) scope.names (cloFrom X.env.cells scope.names [])) s3.heap.objs.size X.env)) (compPost (model X.prog X.w) X.A X.xe use Qf (.ref D) s3.heap.objs.size) { s3 with heap := pushCells (s3.heap.push { cls := .type "dict", data := .dict #[] }) scope.names }
  have nfp : ∀ b ∈ fp, (upd H2 D (o0 D)) b = none := fun b hb => (f3 b hb).1.1
  generalize hce : compEnvC scope (cellsFrom (s3.heap.objs.size + 1) scope.names (cloFrom X.env.cells scope.names [])) s3.heap.objs.size X.env = ce at I4 pg pt pk pe pi1 pg1 pt1 ⊢
  have cL : ce.locals = s3.heap.objs.size := by subst hce; rfl
  generalize hH3 : upd H2 D (o0 D) = H3 at I3 I4 pg pt pk pe pi1 pg1 pt1 w0 nfp f3
  generalize hs4 : ({ s3 with heap := pushCells (s3.heap.push { cls := .type "dict", data := .dict #[] }) scope.names } : Shared) = s4 at I4 ⊢
  have st4 : tn 0 s4.heap := T.keep _ _ _ st3 fun b _ o e => by rw [← hs4]; exact pushCells_keeps _ _ _ _ (Heap.get?_push_of_some _ e)
  have stat : ∀ {σ' : L2.St} {H' : Hp} {s' : Shared}, Inv (X.blk s3 H3 scope ce fp) [] σ' H' s' → (∀ b ∈ fp, H' b = none) → ∀ b ∈ fp, FpOk (X.blk s3 H3 scope ce fp) [] H' b := fun {σ' H' s'} I' hn b hb =>
    ⟨hn b hb, (I'.ok.exf b hb).1, I'.ok.exfs b hb, .inl hb, fun x c e => (I'.ok.exf b hb).2 x c e, fun p hp => absurd (show p ∈ ([] : List (Addr × Obj)) ++ [] from hp) (by simp)⟩
  have loop : codeAny (model X.prog X.w) X.A (.compLoop (.DictComp kx vx [⟨tg, iter, ifs, 0⟩, ⟨tg1, iter1, ifs1, 0⟩] scope pos) 0 (.ref it) (.ref D) ce) (compPost (model X.prog X.w) X.A X.xe use Qf (.ref D) s3.heap.objs.size) s4 := by
    refine zlw (hs1 ce) (fun n s' => ∃ i H', Inv (X.blk s3 H3 scope ce fp) [] (wipe σ (own.map (·.2))) H' s' ∧ tn i s'.heap ∧ (∀ b ∈ fp, H' b = none) ∧ W i n H') ?_ m0 ⟨0, H3, I4, st4, nfp, w0⟩
    rintro n s5 ⟨i, H5, I5, st5, n5, w5⟩
    rcases turn i n H5 w5 with ⟨stop, qq⟩ | ⟨go, Nx, hNx, step⟩
    · have td := T.done (X.blk s3 H3 scope ce fp) rfl rfl rfl hc i [] s5 _ H5 (fun _ _ => False) I5 (stat I5 n5) st5 stop
      refine thnF td fun r s6 ⟨hr, I6⟩ => ?_
      subst hr
      have I7 : Inv X pins σ H5 s6 := I3.call' (ch := fp) I6.os I6.base I6.hok I6.bare fun b hb => ⟨(f3 b hb).1.2.2.2.1, (f3 b hb).1.2.1, (f3 b hb).1.2.2.2.2.1, (f3 b hb).1.2.2.2.2.2⟩
      have nC : H5 s3.heap.objs.size = none := by
        have z : H5 ce.locals = none := I6.free
        rw [cL] at z
        exact z
      obtain ⟨m, hn, _⟩ := I6.loc
      have hn : s6.heap.Ns ce.locals m := hn
      rw [cL] at hn
      exact hRR D s3.heap.objs.size s6 m H5 I7 qq hn (I3.fpOk (Nat.le_refl _) nC)
    · have ti := T.item (X.blk s3 H3 scope ce fp) rfl rfl rfl hc i [] s5 _ H5 (fun _ _ => False) I5 (stat I5 n5) st5 go
      refine thnF ti fun r s6 ⟨u, hr, h6⟩ => ?_
      subst hr
      refine thnF h6 fun _ s7 ⟨x, H7, I7, r7, y7, st7, n7⟩ => ?_
      have I7' := I7.pinned (stat I7 n7) (T.obj _ _ st7)
      refine thnF (pg.run _ s7 _ H7 x u _ I7' r7 (step x H7 y7)) fun _ s8 ⟨σ8, H8, I8, hw8, q8⟩ => ?_
      refine thnF (pt.run _ s8 σ8 H8 _ I8 q8) fun b s9 ⟨H9, I9, q9⟩ => ?_
      have fin : ∀ {σ9 : L2.St} {s' : Shared} {H' : Hp}, Inv (X.blk s3 H3 scope ce fp) ([] ++ pinsAt fp s7.heap) σ9 H' s' → (wipe σ (own.map (·.2))).length = σ9.length → (∀ (j : Nat) v, (wipe σ (own.map (·.2)))[j]? = some (some v) → σ9[j]? = some (some v)) → Nx H' →
          ∃ m, m < n ∧ ∃ i H', Inv (X.blk s3 H3 scope ce fp) [] (wipe σ (own.map (·.2))) H' s' ∧ tn i s'.heap ∧ (∀ b ∈ fp, H' b = none) ∧ W i m H' := fun {σ9 s' H'} I' hl hk nx => by
        obtain ⟨m', hm, w'⟩ := hNx H' nx
        have pin' : ∀ b ∈ fp, ∀ o, s7.heap.get? b = some o → s'.heap.get? b = some o ∧ H' b = none := fun b hb o e =>
          let z := I'.pin (b, o) (List.mem_append_right _ (List.mem_append_right _ (mem_pinsAt hb e)))
          ⟨z.1, z.2.1⟩
        refine ⟨m', hm, i + 1, H', (I'.unpinned (pins := [])).weak hl hk, T.keep _ _ _ st7 fun b hb o e => (pin' b hb o e).1, fun b hb => ?_, w'⟩
        obtain ⟨o, e, _⟩ := T.obj _ _ st7 b hb
        exact (pin' b hb o e).2
      have hl8 : (wipe σ (own.map (·.2))).length = σ8.length := by rw [← hw8, wipe_length]
      have hk8 : ∀ (j : Nat) v, (wipe σ (own.map (·.2)))[j]? = some (some v) → σ8[j]? = some (some v) := fun j v e => by
        rw [← hw8] at e
        exact (wipe_some e).1
      have hk9 : ∀ (j : Nat) v, (wipe σ (own.map (·.2)))[j]? = some (some v) → (wipe σ8 vs1)[j]? = some (some v) := fun j v e => by
        rw [← hw8] at e
        obtain ⟨e1, e2⟩ := wipe_some e
        rw [wipe_out fun z => e2 (hv j z)]
        exact e1
      cases b with
      | false =>
        simp only [Bool.false_eq_true, if_false] at q9 ⊢
        exact fin I9 hl8 hk8 q9
      | true =>
        simp only [if_true] at q9 ⊢
        refine thnF (pi1.run _ s9 σ8 H9 _ I9 q9) fun xv s10 hx => thnF hx fun itv s11 h11 => ?_
        obtain ⟨it1, fp1, tn1, J1, H11, e1, I11, T1, st11, f11, W1, ⟨m1, w1⟩, turn1⟩ := h11
        subst e1
        have stat1 : ∀ {H' : Hp}, (∀ b ∈ fp1, H' b = none) → ∀ b ∈ fp1, FpOk (X.blk s3 H3 scope ce fp) ([] ++ pinsAt fp s7.heap) H' b := fun hn b hb => ⟨hn b hb, (f11 b hb).2⟩
        have loop1 : codeAny (model X.prog X.w) X.A (.compLoop (.DictComp kx vx [⟨tg, iter, ifs, 0⟩, ⟨tg1, iter1, ifs1, 0⟩] scope pos) 1 (.ref it1) (.ref D) ce)
            (fun r s' => match r with
              | .ok _ => ∃ m, m < n ∧ ∃ i H', Inv (X.blk s3 H3 scope ce fp) [] (wipe σ (own.map (·.2))) H' s' ∧ tn i s'.heap ∧ (∀ b ∈ fp, H' b = none) ∧ W i m H'
              | .error _ => False) s11 := by
          refine zmx (fun k s' => ∃ j H', Inv (X.blk s3 H3 scope ce fp) ([] ++ pinsAt fp s7.heap) (wipe σ8 vs1) H' s' ∧ tn1 j s'.heap ∧ (∀ b ∈ fp1, H' b = none) ∧ W1 j k H') ?_ m1 ⟨0, H11, I11.weak (wipe_length _ _) (fun j v e => (wipe_some e).1), st11, fun b hb => (f11 b hb).1, w1⟩
          rintro k s12 ⟨j, H12, I12, st12, n12, w12⟩
          rcases turn1 j k H12 w12 with ⟨stop1, nx1⟩ | ⟨go1, Nx1, hNx1, step1⟩
          · refine thnF (T1.done (X.blk s3 H3 scope ce fp) rfl rfl rfl hc j _ s12 (wipe σ8 vs1) H12 (fun _ _ => False) I12 (stat1 n12) st12 stop1) fun r s13 ⟨hr, I13⟩ => ?_
            subst hr
            exact fin I13 (hl8.trans (wipe_length σ8 vs1).symm) hk9 nx1
          · refine thnF (T1.item (X.blk s3 H3 scope ce fp) rfl rfl rfl hc j _ s12 (wipe σ8 vs1) H12 (fun _ _ => False) I12 (stat1 n12) st12 go1) fun r s13 ⟨u1, hr, h13⟩ => ?_
            subst hr
            refine thnF h13 fun _ s14 ⟨x1, H14, I14, r14, y14, st14, n14⟩ => ?_
            have I14' := I14.pinned (stat1 n14) (T1.obj _ _ st14)
            refine thnF (pg1.run _ s14 (wipe σ8 vs1) H14 x1 u1 _ I14' r14 (step1 x1 H14 y14)) fun _ s15 ⟨σ15, H15, I15, hw15, q15⟩ => ?_
            refine thnF (pt1.run _ s15 σ15 H15 _ I15 q15) fun b1 s16 ⟨H16, I16, q16⟩ => ?_
            have fin1 : ∀ {s' : Shared} {H' : Hp}, Inv (X.blk s3 H3 scope ce fp) (([] ++ pinsAt fp s7.heap) ++ pinsAt fp1 s14.heap) σ15 H' s' → Nx1 H' → ∃ m, m < k ∧ ∃ j H', Inv (X.blk s3 H3 scope ce fp) ([] ++ pinsAt fp s7.heap) (wipe σ8 vs1) H' s' ∧ tn1 j s'.heap ∧ (∀ b ∈ fp1, H' b = none) ∧ W1 j m H' := fun {s' H'} I' nx => by
              obtain ⟨m', hm, w'⟩ := hNx1 H' nx
              have pin' : ∀ b ∈ fp1, ∀ o, s14.heap.get? b = some o → s'.heap.get? b = some o ∧ H' b = none := fun b hb o e =>
                let z := I'.pin (b, o) (List.mem_append_right _ (List.mem_append_right _ (mem_pinsAt hb e)))
                ⟨z.1, z.2.1⟩
              refine ⟨m', hm, j + 1, H', I'.unpinned.weak (by rw [← hw15, wipe_length]) (fun j v e => by rw [← hw15] at e; exact (wipe_some e).1), T1.keep _ _ _ st14 fun b hb o e => (pin' b hb o e).1, fun b hb => ?_, w'⟩
              obtain ⟨o, e, _⟩ := T1.obj _ _ st14 b hb
              exact (pin' b hb o e).2
            cases b1 with
            | false =>
              simp only [Bool.false_eq_true, if_false] at q16 ⊢
              exact fin1 I16 q16
            | true =>
              simp only [if_true] at q16 ⊢
              refine thnF (pk.run _ s16 σ15 H16 _ I16 q16) fun z s17 ⟨yv, H17, I17, r17, q17⟩ => ?_
              refine thnF (pe.run _ s17 σ15 H17 _ I17 q17) fun zz s18 ⟨zv, H18, I18, r18, q18⟩ => ?_
              exact thnF (hst s3 H3 ce fp D _ _ _ _ _ _ _ _ _ (fun _ _ => False) I18 (r17) r18 q18) fun _ s19 ⟨H19, I19, nx⟩ => fin1 I19 nx
        exact zlu loop1 (T1.self X.A 0 _ _ _ st11 loop1)
  exact codeAny_compStart_dict loop (T.self X.A 0 _ _ _ st4 loop)
theorem zye {kx vx tg iter tg1 iter1 : Expr} {ifs ifs1 : List Expr} {scope : Scope} {own : List (Str × Nat)} {vs1 : List Nat} {pos : Pos} {o0 : Addr → HO} {St : Addr → V → V → Hp → (Hp → Prop) → Prop} {wi wi1 : TI} {g g1 : TG} {tt tt1 : TT} {tk tv : TE} (hc : X.calm = true) (hN : X.N.Nodup) (hi : PI X tg iter wi) (ok : BlkOk X.N X.env.scope scope own) (hv : ∀ i ∈ vs1, i ∈ own.map (·.2))
    (hnew : ∀ pins σ H s, Inv X pins σ H s → Inv X pins σ (upd H s.heap.objs.size (o0 s.heap.objs.size)) { s with heap := s.heap.push { cls := .type "dict", data := .dict #[] } }) (hst : ∀ (s : Shared) (H : Hp) (cenv : Env) (ws : List Addr), StOk (X.blk s H scope cenv ws) St)
    (hg : ∀ (s : Shared) (H : Hp) (C : Addr) (cl : List (Str × Addr)) (fp : List Addr), PG (X.blk s H scope (compEnvC scope cl C X.env) fp) tg g) (ht : ∀ (s : Shared) (H : Hp) (C : Addr) (cl : List (Str × Addr)) (fp : List Addr), PTs (X.blk s H scope (compEnvC scope cl C X.env) fp) ifs tt)
    (hi1 : ∀ (s : Shared) (H : Hp) (C : Addr) (cl : List (Str × Addr)) (fp : List Addr), PI (X.blk s H scope (compEnvC scope cl C X.env) fp) tg1 iter1 wi1)
    (hg1 : ∀ (s : Shared) (H : Hp) (C : Addr) (cl : List (Str × Addr)) (fp : List Addr), PG (X.blk s H scope (compEnvC scope cl C X.env) fp) tg1 g1) (ht1 : ∀ (s : Shared) (H : Hp) (C : Addr) (cl : List (Str × Addr)) (fp : List Addr), PTs (X.blk s H scope (compEnvC scope cl C X.env) fp) ifs1 tt1)
    (hk : ∀ (s : Shared) (H : Hp) (C : Addr) (cl : List (Str × Addr)) (fp : List Addr), PE (X.blk s H scope (compEnvC scope cl C X.env) fp) kx tk)
    (he : ∀ (s : Shared) (H : Hp) (C : Addr) (cl : List (Str × Addr)) (fp : List Addr), PE (X.blk s H scope (compEnvC scope cl C X.env) fp) vx tv) (hs : ∀ x, foldedSetIterable iter X.env x = pure x := by intro _; rfl) (hs1 : ∀ env x, foldedSetIterable iter1 env x = pure x := by intro _ _; rfl) :
    PE X (.DictComp kx vx [⟨tg, iter, ifs, 0⟩, ⟨tg1, iter1, ifs1, 0⟩] scope pos) (tDc2 o0 St wi g tt wi1 g1 tt1 tk tv (own.map (·.2)) vs1) := by
  refine ⟨fun pins s σ H Q I h => ?_⟩
  rw [arm_eval_DictComp]
  refine zu9 hc hN I hi ok hv hg ht hk he hs hi1 hg1 ht1 hs1 hnew hst h fun D C s' m H' I' q hn f => ⟨m, hn, fun h'' sb => ?_⟩
  obtain ⟨f0, f1, f2, f3, f4, f5⟩ := f
  exact ⟨.ref D, H', I'.turned (t' := s'.toks) (fun b o hb e => (sb.2 b hb).trans e) f0 f1 f3 f4 f5, rfl, q⟩
/-- {k: v for tg in iter if .. for tg1 in iter1 if ..}: a tracked dict -/
def dDc2 (o : DO) (wi : DTI) (g : DTG) (tt : DTT) (wi1 : DTI) (g1 : DTG) (tt1 : DTT) (tk tv : DTE) (own own1 : List Nat) : DTE := fun η G Q => wi η G fun ds ok G1 => ∀ p, G1 p = none → ∃ W : Nat → DHp → Prop, W 0 (up G1 p o) ∧ (∀ i G, W i G → ok G ∧ ∀ xs, G p ≠ some (.lst xs)) ∧
  (∀ i d G, ds[i]? = some d → W i G → g d (zc3 η own) G fun η2 G2 => tt η2 G2 fun b G3 => if b = true then wi1 η2 G3 fun ds1 ok1 G4 => ∃ W1 : Nat → DHp → Prop, W1 0 G4 ∧ (∀ j G, W1 j G → ok1 G) ∧
      (∀ j d G, ds1[j]? = some d → W1 j G → g1 d (zc3 η2 own1) G fun η3 G5 => tt1 η3 G5 fun b G6 => if b = true then tk η3 G6 fun y G7 => tv η3 G7 fun z G8 => (∀ xs, G8 p ≠ some (.lst xs)) ∧ dSet (.ref p) y z G8 (W1 (j + 1)) else W1 (j + 1) G6) ∧
      (∀ G, W1 ds1.length G → W (i + 1) G)
    else W (i + 1) G3) ∧
  ∀ G, W ds.length G → Q (.ref p) G
theorem zvq [Bs] {K : Ml} {o0 : Addr → HO} {o : DO} {wi wi1 : DTI} {g g1 : DTG} {tt tt1 : DTT} {tk tv : DTE} {own own1 is is1 : List Nat} {σ : L2.St} {H : Hp} {Q : VK} (hsub : ∀ i ∈ is, i ∈ own) (hsub1 : ∀ i ∈ is1, i ∈ own1) (hor : ∀ H G D, H D = some (o0 D) → (D == sysModules) = false → OR K H G D o) (hnl : ∀ H G D ob, OR K H G D ob → (∀ ds, ob ≠ .lst ds) → ∀ xs, H D ≠ some (.lst xs))
    (h : zhp K (dDc2 o wi g tt wi1 g1 tt1 tk tv own own1) σ H Q) : tDc2 o0 (stD K) (zp9 K wi) (zqe K is g) (zlx K tt) (zp9 K wi1) (zqe K is1 g1) (zlx K tt1) (zhp K tk) (zhp K tv) own own1 σ H Q := by
  obtain ⟨η, G, P, hs, hr, t, k⟩ := h
  refine ⟨η, G, _, hs, hr, t, fun ds ok G1 J H1 pp x r it => ?_⟩
  intro D hD hsys
  have gD : G1 D = none := r.free hD
  obtain ⟨W, w0, wok, step, fin⟩ := pp D gD
  have xD : Ext H1 G1 (upd H1 D (o0 D)) (up G1 D o) := .new hD
  have rD : HR K (upd H1 D (o0 D)) (up G1 D o) := r.new hD (hor _ _ _ upd_same hsys)
  refine ⟨fun i m H' => m = ds.length - i ∧ i ≤ ds.length ∧ ∃ G', W i G' ∧ Ext H1 G1 H' G' ∧ HR K H' G',
    ⟨ds.length, by simp, Nat.zero_le _, _, w0, xD, rD⟩, ?_⟩
  rintro i m H2 ⟨rfl, hle, G2, w1, x1, r1⟩
  obtain ⟨a1, a2⟩ := it i H2 G2 x1 r1 (wok _ _ w1).1
  by_cases hlt : i < ds.length
  · have e : ds[i]? = some ds[i] := by simp [hlt]
    obtain ⟨go, yl⟩ := a1 _ e
    refine .inr ⟨go, fun H' => ∃ G', W (i + 1) G' ∧ Ext H1 G1 H' G' ∧ HR K H' G', fun H' ⟨G', z⟩ => ⟨_, by omega, rfl, hlt, G', z⟩, fun y H3 hy => ?_⟩
    obtain ⟨x3, r3, v3⟩ := yl y H3 hy
    have s3 : SR K H3 G2 (wipe σ own) (zc3 η own) := ((hs.ext hr x).ext r (x1.trans x3)).wipe own
    refine ⟨_, zc3 η own, G2, _, v3, s3, r3, step i _ G2 e w1, fun η4 G4 σ4 H4 p4 x4 s4 r4 wp => ⟨?_, η4, G4, _, s4, r4, p4, fun b G5 H5 p5 x5 r5 => ?_⟩⟩
    · have hlen : (wipe σ own).length = σ4.length := by
        have := congrArg List.length wp
        rw [wipe_length, wipe_length] at this
        exact this.symm
      rw [zhl (vs := own) wp hsub hlen]
      exact zgb _ _
    · by_cases hb : b = true
      · subst hb
        rw [if_pos rfl] at p5 ⊢
        have x15 : Ext H1 G1 H5 G5 := x1.trans ((x3.trans x4).trans x5)
        have s5 : SR K H5 G5 σ4 η4 := s4.ext r4 x5
        refine ⟨η4, G5, _, s5, r5, p5, fun ds1 ok1 G6 J1 H6 p6 x6 r6 it1 => ?_⟩
        obtain ⟨W1, w10, w1ok, step1, fin1⟩ := p6
        refine ⟨fun j m H' => m = ds1.length - j ∧ j ≤ ds1.length ∧ ∃ G', W1 j G' ∧ Ext H6 G6 H' G' ∧ HR K H' G', ⟨ds1.length, by simp, Nat.zero_le _, _, w10, .refl _ _, r6⟩, ?_⟩
        rintro j m H7 ⟨rfl, hle1, G7, w17, x7, r7⟩
        obtain ⟨b1, b2⟩ := it1 j H7 G7 x7 r7 (w1ok _ _ w17)
        by_cases hlt1 : j < ds1.length
        · have e1 : ds1[j]? = some ds1[j] := by simp [hlt1]
          obtain ⟨go1, yl1⟩ := b1 _ e1
          refine .inr ⟨go1, fun H' => ∃ G', W1 (j + 1) G' ∧ Ext H6 G6 H' G' ∧ HR K H' G', fun H' ⟨G', z⟩ => ⟨_, by omega, rfl, hlt1, G', z⟩, fun y1 H8 hy1 => ?_⟩
          obtain ⟨x8, r8, v8⟩ := yl1 y1 H8 hy1
          have s8 : SR K H8 G7 (wipe σ4 own1) (zc3 η4 own1) := ((s5.ext r5 x6).ext r6 (x7.trans x8)).wipe own1
          refine ⟨_, zc3 η4 own1, G7, _, v8, s8, r8, step1 j _ G7 e1 w17, fun η9 G9 σ9 H9 p9 x9 s9 r9 wp9 => ⟨?_, η9, G9, _, s9, r9, p9, fun bb G10 H10 p10 x10 r10 => ?_⟩⟩
          · have hlen : (wipe σ4 own1).length = σ9.length := by
              have := congrArg List.length wp9
              rw [wipe_length, wipe_length] at this
              exact this.symm
            rw [zhl (vs := own1) wp9 hsub1 hlen]
            exact zgb _ _
          · by_cases hbb : bb = true
            · subst hbb
              rw [if_pos rfl] at p10 ⊢
              refine ⟨η9, G10, _, s9.ext r9 x10, r10, p10, fun dk G11 vk H11 p11 x11 r11 q11 => ⟨η9, G11, _, (s9.ext r9 x10).ext r10 x11, r11, p11, fun dy G12 vy H12 ⟨nl12, p12⟩ x12 r12 q12 => ⟨⟨.ref D, dk, dy, G12, _, r12, by rw [VR], q11.ext r11 x12, q12, p12, fun G13 H13 w13 x13 r13 => ⟨G13, w13, (x7.trans ((((x8.trans x9).trans x10).trans x11).trans x12)).trans x13, r13⟩⟩, ?_⟩⟩⟩
              have : ∃ ob, G12 D = some ob := by
                cases e7 : G12 D with
                | none =>
                  have : False := by simpa [dSet, e7] using p12
                  exact this.elim
                | some ob => exact ⟨ob, rfl⟩
              obtain ⟨ob, e7⟩ := this
              exact hnl _ _ _ ob (r12 D ob e7) fun ds e => nl12 ds (by rw [e7, e])
            · rw [if_neg hbb] at p10 ⊢
              exact ⟨G10, p10, x7.trans ((x8.trans x9).trans x10), r10⟩
        · have e1 : j = ds1.length := by omega
          subst e1
          exact .inl ⟨b2 (Nat.le_refl _), G7, fin1 _ w17, (x15.trans x6).trans x7, r7⟩
      · rw [if_neg hb] at p5 ⊢
        exact ⟨G5, p5, x1.trans ((x3.trans x4).trans x5), r5⟩
  · have e : i = ds.length := by omega
    subst e
    exact .inl ⟨a2 (Nat.le_refl _), k (.ref D) G2 (.ref D) H2 (fin _ w1) (x.trans x1) r1 (by rw [VR])⟩
theorem zvp [Bs] {kx vx tg iter tg1 iter1 : Expr} {ifs ifs1 : List Expr} {scope : Scope} {own : List (Str × Nat)} {own1 is is1 : List Nat} {pos : Pos} {wi wi1 : DTI} {g g1 : DTG} {tt tt1 : DTT} {tk tv : DTE} (hu : X.A.units + 64 < cLine) (hc : X.calm = true) (hN : X.N.Nodup) (hi : PID X tg iter wi) (ok : BlkOk X.N X.env.scope scope own)
    (hg : ∀ (s : Shared) (H : Hp) (C : Addr) (cl : List (Str × Addr)) (fp : List Addr), PGD (X.blk s H scope (compEnvC scope cl C X.env) fp) tg is g) (ht : ∀ (s : Shared) (H : Hp) (C : Addr) (cl : List (Str × Addr)) (fp : List Addr), PTsD (X.blk s H scope (compEnvC scope cl C X.env) fp) ifs tt)
    (hi1 : ∀ (s : Shared) (H : Hp) (C : Addr) (cl : List (Str × Addr)) (fp : List Addr), PID (X.blk s H scope (compEnvC scope cl C X.env) fp) tg1 iter1 wi1)
    (hg1 : ∀ (s : Shared) (H : Hp) (C : Addr) (cl : List (Str × Addr)) (fp : List Addr), PGD (X.blk s H scope (compEnvC scope cl C X.env) fp) tg1 is1 g1) (ht1 : ∀ (s : Shared) (H : Hp) (C : Addr) (cl : List (Str × Addr)) (fp : List Addr), PTsD (X.blk s H scope (compEnvC scope cl C X.env) fp) ifs1 tt1)
    (hk : ∀ (s : Shared) (H : Hp) (C : Addr) (cl : List (Str × Addr)) (fp : List Addr), PED (X.blk s H scope (compEnvC scope cl C X.env) fp) kx tk)
    (he : ∀ (s : Shared) (H : Hp) (C : Addr) (cl : List (Str × Addr)) (fp : List Addr), PED (X.blk s H scope (compEnvC scope cl C X.env) fp) vx tv) (hv : ∀ i ∈ own1, i ∈ own.map (·.2) := by decide) (hsub : ∀ i ∈ is, i ∈ own.map (·.2) := by decide) (hsub1 : ∀ i ∈ is1, i ∈ own1 := by decide) (hs : ∀ x, foldedSetIterable iter X.env x = pure x := by intro _; rfl) (hs1 : ∀ env x, foldedSetIterable iter1 env x = pure x := by intro _ _; rfl) :
    PED X (.DictComp kx vx [⟨tg, iter, ifs, 0⟩, ⟨tg1, iter1, ifs1, 0⟩] scope pos) (dDc2 (.dN []) wi g tt wi1 g1 tt1 tk tv (own.map (·.2)) own1) :=
  PE.impI (zye (o0 := o0N) (St := stD X.ml) hc hN hi ok hv (fun pins σ H s I => zo4 I) (fun s H cenv fp => zv3 (Y := X.blk s H scope cenv fp) hu) hg ht hi1 hg1 ht1 hk he hs hs1)
    fun _ _ _ _ _ _ h => zvq (o := .dN []) hsub hsub1 (fun H G D e n => ⟨[], zml e n, .nil⟩) zxw h
end
end DL
namespace DL
open PySem PySem.Spec PyProof.Rows L2
end DL
namespace DL
open PySem PySem.Spec PyProof.Rows L2
end DL
namespace DL
open PySem PySem.Spec PyProof.Rows L2
end DL
namespace DL
open PySem PySem.Spec PyProof.Rows L2
end DL
namespace DL
open PySem PySem.Spec PyProof.Rows L2
def zxt : DTS := fun _ _ _ => False
section
variable {X : Cx}
theorem zsr [Bs] {sts : List Stmt} : PSsD X sts zxt := ⟨fun pins s σ H E I ⟨η, G, F, hs, hr, t, k⟩ => t.elim⟩
end
end DL
namespace DL
open PySem PySem.Spec PyProof.Rows L2
end DL
namespace DL
open PySem PySem.Spec PyProof.Rows L2
end DL
namespace DL
open PySem PySem.Spec PyProof.Rows L2
end DL
namespace DL
open PySem PySem.Spec PyProof.Rows L2
end DL
namespace DL
open PySem PySem.Spec PyProof.Rows L2
def dLc2 (wi : DTI) (g : DTG) (tt : DTT) (wi1 : DTI) (g1 : DTG) (tt1 : DTT) (te : DTE) (own own1 : List Nat) : DTE := fun η G Q => wi η G fun ds ok G1 => ∀ p, G1 p = none → ∃ W : Nat → List D → DHp → Prop, W 0 [] (up G1 p (.lst [])) ∧ (∀ i acc G, W i acc G → ok G ∧ G p = some (.lst acc)) ∧
  (∀ i d acc G, ds[i]? = some d → W i acc G → g d (zc3 η own) G fun η2 G2 => tt η2 G2 fun b G3 => if b = true then wi1 η2 G3 fun ds1 ok1 G4 => ∃ W1 : Nat → List D → DHp → Prop, W1 0 acc G4 ∧ (∀ j acc G, W1 j acc G → ok1 G ∧ G p = some (.lst acc)) ∧
      (∀ j d acc G, ds1[j]? = some d → W1 j acc G → g1 d (zc3 η2 own1) G fun η3 G5 => tt1 η3 G5 fun b G6 => if b = true then te η3 G6 fun y G7 => acc.length < sizeLine ∧ G7 p = some (.lst acc) ∧ W1 (j + 1) (acc ++ [y]) (up G7 p (.lst (acc ++ [y]))) else W1 (j + 1) acc G6) ∧
      (∀ acc G, W1 ds1.length acc G → W (i + 1) acc G)
    else W (i + 1) acc G3) ∧
  ∀ acc G, W ds.length acc G → Q (.ref p) G
section
variable {X : Cx}
theorem zuc [Bs] {K : Ml} {wi wi1 : DTI} {g g1 : DTG} {tt tt1 : DTT} {te : DTE} {own own1 is is1 : List Nat} {σ : L2.St} {H : Hp} {Q : VK} (hsub : ∀ i ∈ is, i ∈ own) (hsub1 : ∀ i ∈ is1, i ∈ own1)
    (h : zhp K (dLc2 wi g tt wi1 g1 tt1 te own own1) σ H Q) : tLc2 (zp9 K wi) (zqe K is g) (zlx K tt) (zp9 K wi1) (zqe K is1 g1) (zlx K tt1) (zhp K te) own own1 σ H Q := by
  obtain ⟨η, G, P, hs, hr, t, k⟩ := h
  refine ⟨η, G, _, hs, hr, t, fun ds ok G1 J H1 pp x r it => ?_⟩
  intro D hD
  have gD : G1 D = none := r.free hD
  obtain ⟨W, w0, wok, step, fin⟩ := pp D gD
  have xD : Ext H1 G1 (upd H1 D (.lst [])) (up G1 D (.lst [])) := .new hD
  have rD : HR K (upd H1 D (.lst [])) (up G1 D (.lst [])) := r.new hD ⟨[], upd_same, .nil⟩
  refine ⟨fun i m H' => m = ds.length - i ∧ i ≤ ds.length ∧ ∃ acc G', W i acc G' ∧ Ext H1 G1 H' G' ∧ HR K H' G',
    ⟨ds.length, by simp, Nat.zero_le _, [], _, w0, xD, rD⟩, ?_⟩
  rintro i m H2 ⟨rfl, hle, acc, G2, w1, x1, r1⟩
  obtain ⟨a1, a2⟩ := it i H2 G2 x1 r1 (wok _ _ _ w1).1
  by_cases hlt : i < ds.length
  · have e : ds[i]? = some ds[i] := by simp [hlt]
    obtain ⟨go, yl⟩ := a1 _ e
    refine .inr ⟨go, fun H' => ∃ acc G', W (i + 1) acc G' ∧ Ext H1 G1 H' G' ∧ HR K H' G', fun H' ⟨acc', G', z⟩ => ⟨_, by omega, rfl, hlt, acc', G', z⟩, fun y H3 hy => ?_⟩
    obtain ⟨x3, r3, v3⟩ := yl y H3 hy
    have s3 : SR K H3 G2 (wipe σ own) (zc3 η own) := ((hs.ext hr x).ext r (x1.trans x3)).wipe own
    refine ⟨_, zc3 η own, G2, _, v3, s3, r3, step i _ acc G2 e w1, fun η4 G4 σ4 H4 p4 x4 s4 r4 wp => ⟨?_, η4, G4, _, s4, r4, p4, fun b G5 H5 p5 x5 r5 => ?_⟩⟩
    · have hlen : (wipe σ own).length = σ4.length := by
        have := congrArg List.length wp
        rw [wipe_length, wipe_length] at this
        exact this.symm
      rw [zhl (vs := own) wp hsub hlen]
      exact zgb _ _
    · by_cases hb : b = true
      · subst hb
        rw [if_pos rfl] at p5 ⊢
        have x15 : Ext H1 G1 H5 G5 := x1.trans ((x3.trans x4).trans x5)
        have s5 : SR K H5 G5 σ4 η4 := s4.ext r4 x5
        refine ⟨η4, G5, _, s5, r5, p5, fun ds1 ok1 G6 J1 H6 p6 x6 r6 it1 => ?_⟩
        obtain ⟨W1, w10, w1ok, step1, fin1⟩ := p6
        refine ⟨fun j m H' => m = ds1.length - j ∧ j ≤ ds1.length ∧ ∃ acc G', W1 j acc G' ∧ Ext H6 G6 H' G' ∧ HR K H' G', ⟨ds1.length, by simp, Nat.zero_le _, _, _, w10, .refl _ _, r6⟩, ?_⟩
        rintro j m H7 ⟨rfl, hle1, acc7, G7, w17, x7, r7⟩
        obtain ⟨b1, b2⟩ := it1 j H7 G7 x7 r7 (w1ok _ _ _ w17).1
        by_cases hlt1 : j < ds1.length
        · have e1 : ds1[j]? = some ds1[j] := by simp [hlt1]
          obtain ⟨go1, yl1⟩ := b1 _ e1
          refine .inr ⟨go1, fun H' => ∃ acc G', W1 (j + 1) acc G' ∧ Ext H6 G6 H' G' ∧ HR K H' G', fun H' ⟨acc', G', z⟩ => ⟨_, by omega, rfl, hlt1, acc', G', z⟩, fun y1 H8 hy1 => ?_⟩
          obtain ⟨x8, r8, v8⟩ := yl1 y1 H8 hy1
          have s8 : SR K H8 G7 (wipe σ4 own1) (zc3 η4 own1) := ((s5.ext r5 x6).ext r6 (x7.trans x8)).wipe own1
          refine ⟨_, zc3 η4 own1, G7, _, v8, s8, r8, step1 j _ acc7 G7 e1 w17, fun η9 G9 σ9 H9 p9 x9 s9 r9 wp9 => ⟨?_, η9, G9, _, s9, r9, p9, fun bb G10 H10 p10 x10 r10 => ?_⟩⟩
          · have hlen : (wipe σ4 own1).length = σ9.length := by
              have := congrArg List.length wp9
              rw [wipe_length, wipe_length] at this
              exact this.symm
            rw [zhl (vs := own1) wp9 hsub1 hlen]
            exact zgb _ _
          · by_cases hbb : bb = true
            · subst hbb
              rw [if_pos rfl] at p10 ⊢
              refine ⟨η9, G10, _, s9.ext r9 x10, r10, p10, fun dy G11 vy H11 ⟨hz, hp11, w11⟩ x11 r11 q11 => ?_⟩
              obtain ⟨vs, hv11, ha⟩ := r11 D _ hp11
              have xx : Ext H7 G7 H11 G11 := ((x8.trans x9).trans x10).trans x11
              have xw : Ext H11 G11 (upd H11 D (.lst (vs ++ [vy]))) (up G11 D (.lst (acc7 ++ [dy]))) := .write hp11
              refine ⟨vs, hv11, by rw [ha.length]; exact hz, acc7 ++ [dy], _, w11, (x7.trans xx).trans xw, r11.write hp11 ⟨_, upd_same, ?_⟩⟩
              exact (ha.ext r11 xw).append (.cons (q11.ext r11 xw) .nil)
            · rw [if_neg hbb] at p10 ⊢
              exact ⟨acc7, G10, p10, x7.trans ((x8.trans x9).trans x10), r10⟩
        · have e1 : j = ds1.length := by omega
          subst e1
          exact .inl ⟨b2 (Nat.le_refl _), acc7, G7, fin1 _ _ w17, (x15.trans x6).trans x7, r7⟩
      · rw [if_neg hb] at p5 ⊢
        exact ⟨acc, G5, p5, x1.trans ((x3.trans x4).trans x5), r5⟩
  · have e : i = ds.length := by omega
    subst e
    exact .inl ⟨a2 (Nat.le_refl _), k (.ref D) G2 (.ref D) H2 (fin _ _ w1) (x.trans x1) r1 (by rw [VR])⟩
theorem zxn [Bs] {elt tg iter tg1 iter1 : Expr} {ifs ifs1 : List Expr} {scope : Scope} {own : List (Str × Nat)} {own1 is is1 : List Nat} {pos : Pos} {wi wi1 : DTI} {g g1 : DTG} {tt tt1 : DTT} {te : DTE} (hc : X.calm = true) (hN : X.N.Nodup) (hi : PID X tg iter wi) (ok : BlkOk X.N X.env.scope scope own)
    (hg : ∀ (s : Shared) (H : Hp) (C : Addr) (cl : List (Str × Addr)) (fp : List Addr), PGD (X.blk s H scope (compEnvC scope cl C X.env) fp) tg is g) (ht : ∀ (s : Shared) (H : Hp) (C : Addr) (cl : List (Str × Addr)) (fp : List Addr), PTsD (X.blk s H scope (compEnvC scope cl C X.env) fp) ifs tt)
    (hi1 : ∀ (s : Shared) (H : Hp) (C : Addr) (cl : List (Str × Addr)) (fp : List Addr), PID (X.blk s H scope (compEnvC scope cl C X.env) fp) tg1 iter1 wi1)
    (hg1 : ∀ (s : Shared) (H : Hp) (C : Addr) (cl : List (Str × Addr)) (fp : List Addr), PGD (X.blk s H scope (compEnvC scope cl C X.env) fp) tg1 is1 g1) (ht1 : ∀ (s : Shared) (H : Hp) (C : Addr) (cl : List (Str × Addr)) (fp : List Addr), PTsD (X.blk s H scope (compEnvC scope cl C X.env) fp) ifs1 tt1)
    (he : ∀ (s : Shared) (H : Hp) (C : Addr) (cl : List (Str × Addr)) (fp : List Addr), PED (X.blk s H scope (compEnvC scope cl C X.env) fp) elt te) (hv : ∀ i ∈ own1, i ∈ own.map (·.2) := by decide) (hsub : ∀ i ∈ is, i ∈ own.map (·.2) := by decide) (hsub1 : ∀ i ∈ is1, i ∈ own1 := by decide) (hs : ∀ x, foldedSetIterable iter X.env x = pure x := by intro _; rfl) (hs1 : ∀ env x, foldedSetIterable iter1 env x = pure x := by intro _ _; rfl) :
    PED X (.ListComp elt [⟨tg, iter, ifs, 0⟩, ⟨tg1, iter1, ifs1, 0⟩] scope pos) (dLc2 wi g tt wi1 g1 tt1 te (own.map (·.2)) own1) :=
  PE.impI (pe_lc2 hc hN hi ok hv hg ht hi1 hg1 ht1 he hs hs1) fun _ _ _ _ _ _ h => zuc hsub hsub1 h
end
end DL
namespace DL
open PySem PySem.Spec PyProof.Rows L2
section
variable {K : Type} [DecidableEq K] {prog : Program} {w : World} {knd : HeapKind prog w K}
theorem zsy {d b : Addr} {k : K} (hd : (d == sysModules) = false) :
    MeetsIn prog w (Builtin.«dict.pop» ⟨[.ref d, .ref b], []⟩) (fun A R s => ∃ xs p, knd.room A.in1 ∧ knd.is s.heap k b ∧ s.heap.DictOfH knd d xs ∧ xs.length ≤ sizeLine ∧ atKey xs k = some p ∧
      ∀ h' tk, h'.DictOfH knd d (DT.dropH xs k) → Heap.SameBut d s.heap h' → R (.ok (.ret p.2)) { s with heap := h', toks := tk }) :=
  .of_wp fun A R s ⟨xs, p0, hu, hkey, hm, hsz, hp0, hsome⟩ => by
    obtain ⟨o, es, ep, ho, hc, hdat, he, his, hn⟩ := id hm
    have hes : es.size = xs.length := size_of_entries he
    have hpart : (keyPart (Value.ref b)).isSome = false := rfl
    unfold Builtin.«dict.pop»
    refine wpAny_bind ?_
    unfold Builtin.Dict.keyAndDefault
    refine wpAny_bind (wpAny_notOrdered_dict hm.typeIs ?_)
    show wpAny _ _ (pure (d, Value.ref b, none)) _ _ s
    refine wpAny_pure ?_
    simp only [hpart, Bool.false_eq_true, if_false]
    refine wpAny_bind (wpAny_dictEntries ho hdat (wpAny_bind (wpAny_pure ?_)))
    cases hem : es.isEmpty with
    | true =>
      exfalso
      have h0 : xs = [] := by
        have z : es.size = 0 := by simpa using hem
        exact List.length_eq_zero_iff.mp (by omega)
      rw [h0] at hp0
      cases hp0
    | false =>
      simp only [Bool.false_eq_true, if_false]
      refine wpAny_bind (DT.takeH hu hkey hm hsz (fun hno => ?_) fun p e hp hev h' hm' hs' => ?_)
      · rw [hno] at hp0
        cases hp0
      · rw [hp0] at hp
        cases hp
        simp only [Option.isNone_some, Bool.false_eq_true, if_false]
        exact wpAny_bind (wpAny_letGo (wpAny_pure ⟨e.val, rfl, by rw [hev]; exact hsome h' _ hm' hs'⟩))
end
theorem zkl {α β : Type} {k : NestedKey} : ∀ {xs : List (NestedKey × α)} {kvs : List (NestedKey × β)}, xs.map (·.1) = kvs.map (·.1) → (xs.filter fun x => decide (x.1 ≠ k)).map (·.1) = (kvs.filter fun x => decide (x.1 ≠ k)).map (·.1)
  | [], [], _ => rfl
  | [], _ :: _, h => by simp at h
  | _ :: _, [], h => by simp at h
  | x :: xs, y :: kvs, h => by
    simp only [List.map_cons, List.cons.injEq] at h
    by_cases e : y.1 = k
    · rw [List.filter_cons_of_neg (by simp [h.1, e]), List.filter_cons_of_neg (by simp [e])]
      exact zkl h.2
    · rw [List.filter_cons_of_pos (by simp [h.1, e]), List.filter_cons_of_pos (by simp [e]), List.map_cons, List.map_cons, h.1, zkl h.2]
theorem zo9 {K : Ml} {H : Hp} {G : DHp} {k : NestedKey} : ∀ {xs : List (NestedKey × Addr × Value)} {kvs : List (NestedKey × D)} {ws : List V}, xs.map (·.1) = kvs.map (·.1) → Vals ws (xs.map (·.2.2)) → VRs K H G (kvs.map (·.2)) ws →
    ∃ ws', Vals ws' ((xs.filter fun x => decide (x.1 ≠ k)).map (·.2.2)) ∧ VRs K H G ((kvs.filter fun x => decide (x.1 ≠ k)).map (·.2)) ws'
  | [], [], _, _, _, _ => ⟨[], .nil, .nil⟩
  | [], _ :: _, _, h, _, _ => by simp at h
  | _ :: _, [], _, h, _, _ => by simp at h
  | x :: xs, y :: kvs, ws, h, h2, h3 => by
    simp only [List.map_cons, List.cons.injEq] at h
    obtain ⟨v0, w0, rfl, q0, t0⟩ := VRs.uncons h3
    cases h2 with
    | cons r1 r2 =>
      obtain ⟨ws', a1, a2⟩ := zo9 (k := k) h.2 r2 t0
      by_cases e : y.1 = k
      · rw [List.filter_cons_of_neg (by simp [h.1, e]), List.filter_cons_of_neg (by simp [e])]
        exact ⟨ws', a1, a2⟩
      · rw [List.filter_cons_of_pos (by simp [h.1, e]), List.filter_cons_of_pos (by simp [e])]
        exact ⟨v0 :: ws', .cons r1 a1, .cons q0 a2⟩
section
variable {X : Cx}
theorem zwk {pins : List (Addr × Obj)} {σ : L2.St} {H : Hp} {G : DHp} {s : Shared} {a : Addr} {kvs : List (NestedKey × D)} {k : NestedKey} {h' : Heap} {t' : Nat} {es : Array DictEntry} {ep : Nat} {ws : List V} {xs : List (NestedKey × Addr × Value)}
    (I : Inv X pins σ H s) (hr : HR X.ml H G) (hG : G a = some (.dN kvs)) (hH : H a = some (rawO a es ep)) (hsm : (a == sysModules) = false) (hks : xs.map (·.1) = kvs.map (·.1)) (hat : ∀ x ∈ xs, zcz X.ml H x.1 (.ref x.2.1) ∧ x.1.depth ≤ 8)
    (hvs : Vals ws (xs.map (·.2.2))) (vr : VRs X.ml H G (kvs.map (·.2)) ws) (hlen : kvs.length ≤ sizeLine) (hm' : h'.DictOfH (nestedKind X.prog X.w) a (DT.dropH xs k)) (hs : Heap.SameBut a s.heap h') :
    ∃ H', Inv X pins σ H' { s with heap := h', toks := t' } ∧ Ext H G H' (up G a (.dN (zi4 kvs k))) ∧ HR X.ml H' (up G a (.dN (zi4 kvs k))) := by
  obtain ⟨o', es', ep', ho', hc', hd', he', _, hn'⟩ := hm'
  have raw : h'.DictRaw a es' ep' := ⟨o', ho', hc', hd'⟩
  have x : Ext H G (upd H a (rawO a es' ep')) (up G a (.dN (zi4 kvs k))) := .write hG
  refine ⟨_, zq8 (t' := t') I hH hs raw, x, hr.write hG ?_⟩
  have keys : (DT.dropH xs k).map (·.1) = (zi4 kvs k).map (·.1) := zkl hks
  obtain ⟨ws', v1, v2⟩ := zo9 (k := k) hks hvs vr
  refine ⟨ws', ⟨DT.dropH xs k, es', ep', upd_same, hsm, he', keys, by rw [← keys]; exact hn', by rw [List.length_map]; exact Nat.le_trans (List.length_filter_le _ _) hlen, fun y hy => ?_, v1⟩, v2.ext hr x⟩
  have hy2 := (List.mem_filter.mp hy).1
  exact ⟨(hat y hy2).1.ext hr x, (hat y hy2).2⟩
def zmp : DRn := d2 fun x y G Q => match x with
  | .ref a => (match G a with
    | some (.dN kvs) => (match y with
      | .nd .tup ks => (match D.key (.nd .tup ks) with
        | some k => (k.depth ≤ 8 ∧ kvs.length ≤ sizeLine) ∧ (match dval kvs k with
          | some d => Q d (up G a (.dN (zi4 kvs k)))
          | none => False)
        | none => False)
      | _ => False)
    | _ => False)
  | _ => False
theorem zm9 (hu : X.A.units + 64 < cLine) : MtD X "dict.pop" zmp := zq9 fun pins s σ H G x y v u dx dy P I rx ry hr q1 q2 t => by
  cases dx with
  | ref a =>
    cases hG : G a with
    | none => have : False := by simpa [hG] using t
              exact this.elim
    | some o =>
      cases o with
      | dN kvs =>
        cases dy with
        | nd kd ks =>
          cases kd with
          | tup =>
            cases ek : D.key (.nd .tup ks) with
            | none => have : False := by simpa [hG, ek] using t
                      exact this.elim
            | some k =>
              cases ed : dval kvs k with
              | none => have : False := by simpa [hG, ek, ed] using t
                        exact this.elim
              | some d =>
                have t : (k.depth ≤ 8 ∧ kvs.length ≤ sizeLine) ∧ P d (up G a (.dN (zi4 kvs k))) := by simpa [hG, ek, ed] using t
                obtain ⟨⟨h8, hl⟩, t⟩ := t
                have ka := zld q2 ek
                rw [VR] at q1; subst q1
                rw [VR] at q2
                obtain ⟨b, vs, rfl, hb, rb⟩ := q2
                cases (show v = Value.ref a from rx)
                cases (show u = Value.ref b from ry)
                obtain ⟨ws, dn, vr⟩ := hr a _ hG
                obtain ⟨xs, es, ep, h1, h2, h3, h4, h5, h6, h7, h9, h10⟩ := DnAt.of I dn
                rcases zg7 (K := Unit) (k := k) h10 kvs H G X.ml h6 vr with ⟨e1, _⟩ | ⟨d2, w2, p2, e1, e2, rw', qw⟩
                · rw [ed] at e1; cases e1
                · rw [ed] at e1; cases e1
                  refine call_meetsIn PySem.F.slot_dict_pop h4.typeIs PySem.F.entry_dict_pop (PySem.F.args_dict_pop_2 _ _) (zsy (knd := nestedKind X.prog X.w) (k := k) h5) ⟨xs, p2, zkr hu, ⟨zep I ka rfl, h8⟩, h4, by have := congrArg List.length h6; rw [List.length_map] at this; rw [this]; exact h7, e2, fun h' tk hm' hs => ?_⟩
                  obtain ⟨H', I', x, r'⟩ := zwk (t' := tk) (k := k) I hr hG h1 h5 h6 h9 h10 vr hl hm' hs
                  exact ⟨w2, d, _, _, I', rw', t, x, r', qw.ext hr x⟩
          | _ => have : False := by simpa [hG] using t
                 exact this.elim
        | _ => have : False := by simpa [hG] using t
               exact this.elim
      | _ => have : False := by simpa [hG] using t
             exact this.elim
  | _ => exact t.elim
end
end DL
namespace PySem.W
open PySem PySem.Calls PySem.SeqAt PyProof.Rows
section
variable {prog : Program} {w : World} {A : Around} {s : Shared}
theorem znb (x y : Value) : keyLt' general' x y = oneLt' false x y := rfl
/-- two tuples, by their type's own rule or by any -/
theorem zry {f : Bool} {xs ys : List PyData} {a b : Value} {as bs : List Addr} {E : Value → Shared → Prop} {Q : Bool → Shared → Prop} (ra : Reads s.heap a (.tuple xs) as) (rb : Reads s.heap b (.tuple ys) bs) (h : alike (.tuple xs) (.tuple ys) = true)
    (hu : A.units + min (PyData.depth (.tuple xs)) (PyData.depth (.tuple ys)) < cLine) (hq : Q (dataLt (.tuple xs) (.tuple ys)) s) : wpAny (model prog w) A (oneLt' f a b) Q E s := by
  cases f with
  | false => exact oneLt_alike (fun e => by cases e) ra rb h (fun e => by cases e) hu hq
  | true =>
    have hal : alikeAll xs ys = true := by simpa [alike] using h
    cases ra with
    | @tuple l o vs n _ as₁ h1 h2 h3 h4 =>
      cases rb with
      | @tuple l' o' vs' n' _ bs₁ k1 k2 k3 k4 =>
        have n1 : vs.size = xs.length := by simpa using SeqAt.ReadsAll.length _ _ _ h4
        have n2 : vs'.size = ys.length := by simpa using SeqAt.ReadsAll.length _ _ _ k4
        rw [dataLt_tuple, ← firstLt_toks xs ys hal, ← n1, ← n2] at hq
        rw [oneLt'_eq]
        simp only [if_true]
        refine wpAny_bind (wpAny_cRoomFor (SeqAt.room_here hu) ?_)
        obtain ⟨oc, od, dt, osl⟩ := o
        obtain ⟨oc', od', dt', osl'⟩ := o'
        simp only at h2 h3 k2 k3
        subst h2 h3 k2 k3
        refine wpAny_bind (wpAny_callSpecialIfBound?_slot (T := "tuple") ⟨_, h1, rfl⟩ F.slot_tuple_lt (call_meets F.slot_tuple_lt ⟨_, h1, rfl⟩ F.entry_tuple_lt (F.args_tuple_lt_2 _ _) (SeqAt.tuple_ltAt l l' vs vs' n n' od od' osl osl' (pairEq xs ys) (fun j => dataLt (xs.getD j .none) (ys.getD j .none))) ⟨h1, k1, fun j j1 j2 => ?_, fun j j1 j2 hj => ?_, ?_⟩))
        · have := eqAt_alikeAll xs ys A.in1 s vs.toList vs'.toList _ _ h4 k4 hal (SeqAt.room_in hu) j (by simpa using j1) (by simpa using j2)
          simpa using this
        · have := rcLt_alikeAll xs ys A.in1 s vs.toList vs'.toList _ _ h4 k4 hal (SeqAt.room_in hu) j (by simpa using j1) (by simpa using j2) hj
          simpa using this
        · exact wpAny_truthy_bool hq
def neB : PyData → Bool
  | .tuple [] => false
  | _ => true
theorem zvu {d : PyData} : neB d = true ↔ d ≠ .tuple [] := by
  cases d with
  | tuple xs => cases xs <;> simp [neB]
  | _ => simp [neB]
theorem zh4 {M : Model} {E : Value → Shared → Prop} : ∀ {vs : List Value} {ds : List PyData} {Q : List (Option Value) → Shared → Prop}, EachIs (fun v d => ∃ as, Reads s.heap v d as) vs ds → (∀ d ∈ ds, ∃ xs, d = .tuple xs) →
    (∀ rs : List (Option Value), rs.map (·.isSome) = ds.map (fun d => neB d) → Q rs s) → wpAny M A (vs.mapM firstOfTuple') Q E s
  | _, _, Q, .nil, _, h => by rw [List.mapM_nil]; exact wpAny_pure (h [] rfl)
  | v :: vs, d :: ds, Q, .cons ⟨as, r⟩ t, ht, h => by
    obtain ⟨xs, rfl⟩ := ht d List.mem_cons_self
    cases r with
    | @tuple a o us n _ _ h1 h2 h3 h4 =>
      rw [List.mapM_cons]
      refine wpAny_bind ?_
      rw [kas_first_eq]
      refine wpAny_bind (Looks.here (show Looks M s.heap (typeOf (.ref a)) o.cls from (Looks.ld h1).andThen .now) ?_)
      rw [h2, if_neg (by first | decide | simp)]
      refine wpAny_bind (listItems_at h1 h3 (wpAny_pure ?_))
      refine wpAny_bind (zh4 (Q := fun bs s' => wpAny M A (pure (us[0]? :: bs)) Q E s') t (fun d hd => ht d (List.mem_cons_of_mem _ hd)) fun rs hr => wpAny_pure (h _ ?_))
      rw [List.map_cons, List.map_cons, hr]
      congr 1
      cases xs with
      | nil =>
        have : us.size = 0 := by simpa using SeqAt.ReadsAll.length _ _ _ h4
        rw [Array.getElem?_eq_none (by omega)]
        rfl
      | cons x xr =>
        have : us.size = (x :: xr).length := by simpa using SeqAt.ReadsAll.length _ _ _ h4
        rw [List.length_cons] at this
        rw [Array.getElem?_eq_getElem (by omega)]
        rfl
/-- rows of tuples, some of them empty, can be sorted -/
theorem SortsAt.tups {vs : List Value} {ds : List PyData} (e : EachIs (fun v d => ∃ as, Reads s.heap v d as) vs ds) (hal : AllAlike ds) (ht : ∀ d ∈ ds, ∃ xs, d = .tuple xs) (hu : ∀ d, d ∈ ds → A.units + d.depth < cLine) : SortsAt prog w A s (dataKind s.heap ds) vs := by
  have room : ∀ {d d' : PyData}, d ∈ ds → A.units + min d.depth d'.depth < cLine := fun {d d'} hd => Nat.lt_of_le_of_lt (Nat.add_le_add_left (Nat.min_le_left _ _) _) (hu d hd)
  by_cases hne : ∀ d ∈ ds, d ≠ .tuple []
  · exact SortsAt.data e hal (.inl fun d hd => by
      obtain ⟨xs, rfl⟩ := ht d hd
      cases xs with
      | nil => exact absurd rfl (hne _ hd)
      | cons x r => exact ⟨x, r, rfl⟩) hu
  · refine ⟨fun v hv => ?_, ?_⟩
    · obtain ⟨d, hd, as, r⟩ := e.left v hv
      exact ⟨_, dataKind_some hal hd r⟩
    · have lt : ∀ (f : Bool) (kd : SortKind), (∀ x y, keyLt' kd x y = oneLt' f x y) → H.LtAt prog w A s (dataKind s.heap ds) kd := fun f kd hk => by
        intro E x y a b Q ha hb hq
        obtain ⟨d, as, hd, ra, rfl⟩ := dataKind_inv ha
        obtain ⟨d', as', hd', rb, rfl⟩ := dataKind_inv hb
        rw [hk]
        have hdd := hal d hd d' hd'
        have hroom := room (d' := d') hd
        obtain ⟨xs, rfl⟩ := ht d hd
        obtain ⟨ys, rfl⟩ := ht d' hd'
        exact zry ra rb hdd hroom hq
      cases ds with
      | nil => exact absurd (fun d hd => by cases hd) hne
      | cons d₀ ds₀ =>
        cases e with
        | @cons v₀ _ vs₀ _ e0 et =>
          have et0 := e0
          have notall : ∀ rs : List (Option Value), rs.map (·.isSome) = (d₀ :: ds₀).map (fun d => neB d) → ¬ (rs.toArray.all fun x => x.isSome) = true := fun rs hr ha => hne fun d hd => by
            have h1 : ∀ b ∈ rs.map (·.isSome), b = true := fun b hb => by
              obtain ⟨r, hr2, rfl⟩ := List.mem_map.mp hb
              rw [List.all_toArray] at ha
              exact List.all_eq_true.mp ha r hr2
            rw [hr] at h1
            exact zvu.mp (h1 _ (List.mem_map.mpr ⟨d, hd, rfl⟩))
          by_cases h0 : d₀ = .tuple []
          · refine ⟨oneType', lt true _ keyLt'_oneType, fun h2 E Q hq => ?_⟩
            rw [kat_kind_eq, List.mapM_toArray, map_eq_pure_bind]
            refine wpAny_bind (wpAny_bind (zh4 (.cons e0 et) ht fun rs hr => wpAny_pure ?_))
            rw [if_neg (notall rs hr)]
            have hr0 : ((rs.toArray[0]?).bind id).isSome = false := by
              cases rs with
              | nil => rfl
              | cons r rr =>
                rw [List.map_cons, List.map_cons] at hr
                have := (List.cons.inj hr).1
                rw [h0] at this
                have h3 : r.isSome = false := this
                show (id r).isSome = false
                exact h3
            rw [if_neg (by rw [hr0]; exact Bool.false_ne_true)]
            rw [oneTypeOnly'_eq, List.mapM_toArray, map_eq_pure_bind]
            refine wpAny_bind (wpAny_bind (wpAny_bind (kas_mapM (r := Value.type "tuple") _ (fun v hv Q' hq => Looks.here ?_ hq) (wpAny_pure ?_))))
            · obtain ⟨d, hd, as, r⟩ := (EachIs.cons e0 et).left v hv
              obtain ⟨xs, rfl⟩ := ht d hd
              exact looks_reads r
            · have hall : ((List.map (fun _ => Value.type "tuple") (v₀ :: vs₀)).toArray.all fun x => x == Value.type "tuple") = true := by
                simp only [List.all_toArray, List.all_map, List.all_eq_true]
                intro _ _
                rfl
              have h0 : (List.map (fun _ => Value.type "tuple") (v₀ :: vs₀)).toArray[0]? = some (Value.type "tuple") := by simp
              rw [h0]
              simp only [hall, if_true]
              exact wpAny_pure (wpAny_pure hq)
          · refine ⟨general', lt false _ znb, fun h2 E Q hq => ?_⟩
            rw [kat_kind_eq, List.mapM_toArray, map_eq_pure_bind]
            refine wpAny_bind (wpAny_bind (zh4 (.cons e0 et) ht fun rs hr => wpAny_pure ?_))
            rw [if_neg (notall rs hr)]
            have hr0 : ((rs.toArray[0]?).bind id).isSome = true := by
              cases rs with
              | nil => cases hr
              | cons r rr =>
                rw [List.map_cons, List.map_cons] at hr
                have := (List.cons.inj hr).1
                have h3 : r.isSome = true := by rw [this]; exact zvu.mpr h0
                show (id r).isSome = true
                exact h3
            rw [if_pos hr0]
            exact wpAny_pure hq
end
end PySem.W
namespace DL
open PySem PySem.Spec PyProof.Rows L2
end DL
namespace DL
open PySem PySem.Spec PyProof.Rows L2
/-- a builtin, told in two ways -/
theorem zzd {X : Cx} {f : Value} {r r' : DRn} (h : zfj X f r) (h' : zfj X f r') : zfj X f fun ds G Q => r ds G Q ∨ r' ds G Q := by
  intro pins s σ H vs us Q I rr ⟨ds, G, P, q, hr, t, k⟩
  rcases t with t | t
  · exact h pins s σ H vs us Q I rr ⟨ds, G, P, q, hr, t, k⟩
  · exact h' pins s σ H vs us Q I rr ⟨ds, G, P, q, hr, t, k⟩
/-- sorted(a list or a tuple) -/
def zna : DRn := fun ds G Q => zd3 ds G Q ∨ zq3 ds G Q
theorem zr3 {X : Cx} (hu : X.A.units + 64 < cLine) : zfj X (.builtin "sorted") zna := zzd (zcx hu) (zrq hu)
end DL
namespace DL
open PySem PySem.Spec PyProof.Rows L2
theorem zsh {vs : List V} {us : List Value} (h : Vals vs us) : ∀ (i : Nat) (u : Value), us[i]? = some u → ∃ v, vs[i]? = some v ∧ RelV v u := by
  induction h with
  | nil => intro i u e; simp at e
  | cons r t ih =>
    intro i u e
    cases i with
    | zero => simp only [List.getElem?_cons_zero, Option.some.injEq] at e; subst e; exact ⟨_, rfl, r⟩
    | succ i => exact ih i u (by simpa using e)
theorem zig {h : Heap} : ∀ {us : List Value} {ds : List D}, PySem.W.EachIs (fun u d => ∃ as, Reads h u (py d) as) us ds → ∃ as, ReadsAll h us (ds.map py) as
  | _, _, .nil => ⟨_, .nil⟩
  | _, _, .cons ⟨as, r⟩ t => by
    obtain ⟨bs, rs⟩ := zig t
    exact ⟨_, .cons r rs⟩
theorem zpk {B : Nat} : ∀ {ds : List D}, (∀ d ∈ ds, (py d).depth ≤ B) → PyData.depthAll (ds.map py) ≤ B
  | [], _ => Nat.zero_le _
  | d :: ds, h => by
    have h1 := h d List.mem_cons_self
    have h2 := zpk (ds := ds) fun x hx => h x (List.mem_cons_of_mem _ hx)
    rw [List.map_cons, PyData.depthAll]
    exact Nat.max_le.mpr ⟨h1, h2⟩
section
variable {X : Cx}
def zwt : DRn := d1 fun d G Q => ∃ ds : List D, lsD d G = some ds ∧ ds ≠ [] ∧ plainDs ds = true ∧ PySem.W.AlikeAll (ds.map py) ∧ (∀ d ∈ ds, (py d).depth ≤ 60) ∧ ∀ y ∈ ds, Q y G
theorem zww (hc : X.calm = true) (hu : X.A.units + 64 < cLine) : zfj X (.builtin "max") zwt := zgy fun pins s σ H G x v d P I rx hr q1 ⟨ds, e, hne, p1, p2, p4, t⟩ => by
  obtain ⟨a, vs, rfl, hq, r⟩ := zmq hr q1 e
  cases (show v = Value.ref a from rx)
  obtain ⟨its, rv, pl, hz⟩ := I.list hq
  obtain ⟨as, ra⟩ := zig (zhm I r rv p1)
  cases ds with
  | nil => exact absurd rfl hne
  | cons d0 dr =>
    have hd := zpk p4
    rw [List.map_cons] at ra p2 hd
    refine PySem.W.max_list_data (I.ok.hd hc) pl.isList (by simpa using ra) p2 (by omega) fun i u h' tk bs hi _ hk => ?_
    have hi : its[i]? = some u := by simpa using hi
    obtain ⟨w, e1, rw'⟩ := zsh rv i u hi
    obtain ⟨y, e2, qy⟩ := r.getV e1
    have I' : Inv X pins σ H { s with heap := h', toks := tk } := I.kept hk
    exact zay I' rw' hr qy (t y (List.mem_of_getElem? e2))
end
end DL
namespace HB
open PySem PySem.Spec PyProof.Rows L2
theorem zxo {l : PySem.W.OpenLaw} {k : Nat} {q : Program} {loose : List Str} {XP : (Str → Option Value) → Heap → Prop} {YP : World → Heap → Prop} {d : DefRec} {x : Str}
    (hn : l.most = some 63) (hdf : d.params.defaults = []) (hr : Room k callerA)
    (F : ∀ (w : World) (mg : Str → Option Value) (fa : Addr) (h : Heap), YP w h → h.Ns mainGlobals mg → mg d.name = some (.ref fa) →
      ∃ (K : PySem.W.Frag) (fd : FuncData), K.In h ∧ (∀ (s : Shared) (u : Value), BindsTo s fd ⟨[u], []⟩ [(x, u)]) ∧
        ∀ base : Heap, K.In base → base.Ns mainGlobals mg → DL.FnD l.prog w K mg base k fa fd [x] DL.ztv) :
    PySem.W.WalkO q loose XP YP l.row.toRowW d [] (fun f vs => PySem.call f vs) :=
  L2.walk_ofE (CX := CX0) hn (by decide) hdf hr (fun w mg fa h Y G hm => by
    obtain ⟨K, fd, KX, hb, hF⟩ := F w mg fa h Y G hm
    refine ⟨K, fd, fun vs H Q _ => DL.zs8 ⟨K, w⟩ DL.ztv vs H Q, KX, hb, fun H a ns h1 h2 h3 => ?_, hF⟩
    have hs : DL.VR ⟨K, w⟩ H (fun _ => none) (.nd .scr (ns.map .int)) (.ref a) := by
      rw [DL.VR]
      refine ⟨a, _, rfl, ?_, .of_ints ns⟩
      rcases h3 with (h3 | ⟨o, h3⟩) | h3
      · rcases h2 a with z | ⟨ob, xs, z⟩
        · rw [h3] at z; cases z
        · rw [h3] at z; cases z
      · exact .inl ⟨o, h3⟩
      · exact .inr h3
    exact ⟨[.nd .scr (ns.map .int)], fun _ => none, fun v _ => v = .bl true, .cons hs .nil, (fun a o e => by cases e), ⟨ns, rfl, h1, fun _ => rfl, fun _ => rfl⟩, fun d G' v H' p _ _ q => by
      subst p
      rw [DL.VR] at q
      exact q⟩) fun _ _ _ _ z => z
end HB
namespace DX
open PySem PySem.W PySem.Calls PyProof.Rows PySem.HandSPX
open Builtin Builtin.ObjectAttr
section
variable {prog : Program} {w : World} {A : Around} {E : Value → Shared → Prop} {R : Result → Shared → Prop} {hp : Heap} {g : Array GenState} {d : Drawn} {t : Nat} {os : OsState} {K : W.Frag} {x C : Addr}
/-- the first field of a new exception -/
theorem zyc {name : Str} {tk : Tok} {v : Value} {fv : Array Value} (X : K.In hp) (hx : hp.get? x = some { cls := .ref C, data := .fields fv }) (ov : excOver K C ESX.exTail = true) (ht : takerIn K C name = some none) (hd : hasDictIn K C = true)
    (hq : ∀ h' tk' dx, (∀ b o, b ≠ x → hp.get? b = some o → h'.get? b = some o) → hp.objs.size ≤ dx → dx ≠ x → h'.get? x = some { cls := .ref C, dict := some dx, data := .fields fv } → h'.Ns1 dx (fun y => if y = name then some v else none) →
      R (.ok (.ret .none)) ⟨h', g, d, tk', os⟩) :
    codeAny (model prog w) A (.call (.builtin "object.__setattr__") ⟨[.ref x, .str name tk, v], []⟩) R ⟨hp, g, d, t, os⟩ := by
  have I : InstAt hp x { cls := .ref C, data := .fields fv } C none := ⟨hx, rfl, rfl, trivial⟩
  have ne : x ≠ hp.objs.size := Nat.ne_of_lt (Heap.lt_size hx)
  obtain ⟨cd, hc, hdd⟩ := any_some hd
  have lc : Looks (model prog w) hp (classData C) cd := looks_clsIn X hc
  refine osa_openX (s := ⟨hp, g, d, t, os⟩) PySem.F.store_Exception X I ov ht fun b => ?_
  obtain ⟨nm, bs, mro, ns, qn, hD, sn, sb, ab, col, del⟩ := cd
  dsimp only at hdd
  subst hdd
  dsimp only
  unfold storeInOwnDict ownDictForStores
  repeat (first | with_reducible refine store_in_new ?_ ?_ | with_reducible refine wpAny_loadPart_at hx ?_ | with_reducible refine lc.at ?_ | wp_step)
  · exact ⟨_, #[], _, (Heap.get?_update_ne _ _ _ _ ne.symm).trans (Heap.get?_push_at rfl rfl), rfl, fun e he => (by simp at he), fun _ => rfl⟩
  · intro h' tk' hn same
    have h1 : (hp.push { cls := .type "dict", data := .dict #[] }).get? x = some { cls := .ref C, data := .fields fv } := Heap.get?_push_of_some _ hx
    exact hq h' tk' hp.objs.size
      (fun b o hb ho => by
        rw [same.2 b (Nat.ne_of_lt (Heap.lt_size ho)), Heap.get?_update_ne _ _ _ _ hb]
        exact Heap.get?_push_of_some _ ho)
      (Nat.le_refl _) ne.symm (by rw [same.2 x ne]; exact Heap.get?_update_self _ h1 rfl) hn
end
/-- what the written part says of the class at C (of the program P) with its __init__ at fI: the field f, the parameter's name y -/
structure XTxt (P : Program) (K : Frag) (mg : Str → Option Value) (C fI : Addr) (y f : Str) : Prop where
  ini : excInitIn K C ESX.exTail "Exception.__new__" = true
  ov : excOver K C ESX.exTail = true
  nof : takerIn K C f = some none
  hd : hasDictIn K C = true
  sa : findIn K (.ref C) "__setattr__" = some (some (.builtin "object.__setattr__"))
  iC : findIn K (.ref C) "__init__" = some (some (.ref fI))
  isf : isFn K (.ref fI) = true
  kC : keepIn K (.ref C) = true
  exB : subIn K (.ref C) (.type "BaseException") = some true
  exE : subIn K (.ref C) (.type "Exception") = some true
  tyC : typeIn K (.ref C) = some (.type "type")
  self : mroIn K C (.ref C) = some true
  sup : ks_superIn K C C "__init__" = some (some (.builtin "Exception.__init__"))
  third : nsIn K cStatics "thirdparty.any" = some none
  nsup : mg "super" = none
  top : (P.main.scope.names.lookup ("super" : Str)).isSome = false
  fn : ∃ (oc : Value) (od : Option Addr) (qual : Str) (doc pm kV : Value) (an : Option Addr) (cda cc : Addr) (ct : Value) (osl : Array (Option Value)) (pa : Arguments) (body : List Stmt) (sco : Scope) (msg : Str) (j : Nat) (q1 q2 q3 q4 q5 q6 q7 q8 q9 q10 : Pos),
    K.lookup fI = some ⟨oc, od, .func (ksFn "__init__" qual pa body sco .none kV doc pm an (.ref cda) ct cc), osl⟩ ∧ codeIn K (.ref cda) qual = true ∧
    body = [.Expr (.Call (.Attribute (.Call (.Name "super" q1) [] [] q2) "__init__" q3) [.Constant (.str msg) j q4] [] q5) q6, .Assign [.Attribute (.Name "self" q7) f q8] (.Name y q9) q10] ∧
    sco.kind = .function ∧ sco.isCoroutine = false ∧ sco.isGenerator = false ∧ sco.names.lookup ("super" : Str) = some .globalImplicit ∧ sco.names.lookup ("__class__" : Str) = some .free ∧ sco.names.lookup ("self" : Str) = some .local ∧ sco.names.lookup y = some .local ∧ (∀ x ∈ sco.names, x.2 ≠ .cell) ∧
    (∃ ar : Arg, (pa.posonlyargs ++ pa.args).head? = some ar ∧ ar.arg = "self") ∧ (y == ("__debug__" : Str)) = false ∧ y ≠ "self" ∧
    (∃ (ccl : Value) (cdd : Option Addr) (vs : Array Value) (ccs : Array (Option Value)) (file : Str) (tf : Tok), K.lookup cda = some ⟨ccl, cdd, .fields vs, ccs⟩ ∧ vs[2]? = some (.str file tf) ∧ ((P.main.file : Str) == file) = true) ∧
    (∃ (cl : Value) (cld : Option Addr) (csl : Array (Option Value)), K.lookup cc = some ⟨cl, cld, .cell (some (.ref C)), csl⟩) ∧
    (∃ pl : Sem Bool, ∀ L : Addr, eval (.Call (.Attribute (.Call (.Name "super" q1) [] [] q2) "__init__" q3) [.Constant (.str msg) j q4] [] q5) (ksEnv qual sco L fI (.ref cda) cc) = (do
      let ov ← attributeBase (.Call (.Name "super" q1) [] [] q2) "__init__" (ksEnv qual sco L fI (.ref cda) cc) (eval (.Call (.Name "super" q1) [] [] q2) (ksEnv qual sco L fI (.ref cda) cc))
      standAt q3.atName
      let (fx, first) ← holding [ov] (getMethod ov "__init__" pl)
      callWith q5 fx first (backTo q5 (starEach [.Constant (.str msg) j q4] (ksEnv qual sco L fI (.ref cda) cc))) [])) ∧
    (∀ L : Addr, interactive (ksEnv qual sco L fI (.ref cda) cc) = false ∧ swapsWith (.Call (.Attribute (.Call (.Name "super" q1) [] [] q2) "__init__" q3) [.Constant (.str msg) j q4] [] q5) none q6.line (ksEnv qual sco L fI (.ref cda) cc) = pure false ∧
      swapsWith (.Name y q9) (some (.Attribute (.Name "self" q7) f q8)) q10.line (ksEnv qual sco L fI (.ref cda) cc) = pure false ∧
      starEach [.Constant (.str msg) j q4] (ksEnv qual sco L fI (.ref cda) cc) = [(false, eval (.Constant (.str msg) j q4) (ksEnv qual sco L fI (.ref cda) cc))] ∧
      ∀ (M : Model) (A : Around) (Q : Value → Shared → Prop) (E : Value → Shared → Prop) (s : Shared), (∀ s' tk, s'.heap = s.heap → s'.gens = s.gens → s'.drawn = s.drawn → s'.os = s.os → Q (.str msg tk) s') → wpAny M A (eval (.Constant (.str msg) j q4) (ksEnv qual sco L fI (.ref cda) cc)) Q E s) ∧
    (∀ (s : Shared) (u v : Value), BindsTo s (ksFn "__init__" qual pa body sco .none kV doc pm an (.ref cda) ct cc) ⟨[u, v], []⟩ [("self", u), (y, v)])
end DX
namespace DX
open PySem PySem.W PySem.Calls PyProof.Rows PySem.HandSPX
/-- what __init__ leaves -/
structure IEnd (h h' : Heap) (x C dx t1 : Addr) (f : Str) (v : Value) : Prop where
  keep : ∀ b o, b ≠ x → h.get? b = some o → h'.get? b = some o
  obj : h'.get? x = some { cls := .ref C, dict := some dx, data := .fields #[.ref t1, .none, .none, .none, .bool false, .none] }
  dbig : h.objs.size ≤ dx
  dne : dx ≠ x
  ns : h'.Ns1 dx (fun z => if z = f then some v else none)
section
variable {prog : Program} {w : World} {A : Around} {E : Value → Shared → Prop} {R : Result → Shared → Prop} {K : Frag} {mg : Str → Option Value} {x C fI : Addr} {y f : Str}
theorem zxv {h : Heap} {D : Addr} {cd : ClassData} (X : K.In h) (hD : clsIn K D = some cd) : ∃ o, h.get? D = some o ∧ o.data = .cls cd := by
  unfold clsIn at hD
  split at hD
  · rename_i ho
    cases hD
    exact ⟨_, X _ _ ho, rfl⟩
  · cases hD
theorem zu7 (T : XTxt prog K mg C fI y f) {t0 : Addr} {v : Value} {h : Heap} {g : Array GenState} {d : Drawn} {t : Nat} {os : OsState} (X : K.In h) (hlim : h.NoLimit) (hg : h.Ns mainGlobals mg) (hb : ∃ mb, h.Ns builtinsNs mb ∧ ∀ x : Str, x ≠ "__name__" → mb x = bootBuiltins x) (hx : h.get? x = some (excO C t0)) (nX : K.lookup x = none) (hroom : A.depth < recursionLimit)
    (hq : ∀ h' tk dx t1, IEnd h h' x C dx t1 f v → R (.ok (.ret .none)) ⟨h', g, d, tk, os⟩) :
    codeAny (model prog w) A (.call (.ref fI) ⟨[.ref x, v], []⟩) R ⟨h, g, d, t, os⟩ := by
  obtain ⟨oc, od, qual, doc, pm, kV, an, cda, cc, ct, osl, pa, body, sco, msg, j, q1, q2, q3, q4, q5, q6, q7, q8, q9, q10, ho, hcd, rfl, hk, hco, hgen, hs1, hs2, hs3, hs4, hcell, ⟨ar, har, ean⟩, hyd, hys, ⟨ccl, cdd, vs, ccs, file, tf, hcode, hvs, hfile⟩, ⟨cl, cld, csl, hcc⟩, ⟨pl, hev⟩, hsm, hbind⟩ := T.fn
  obtain ⟨mb, hbn, hbb⟩ := hb
  obtain ⟨cd, hC, hdd⟩ := any_some T.hd
  refine ks_codeAny_call_defAt (fd := ksFn "__init__" qual pa _ sco .none kV doc pm an (.ref cda) ct cc) (binds := [("self", .ref x), (y, v)]) hroom (X _ _ ho) rfl hlim (codeRec_of X hcd) rfl (hbind _ _ _) hcell ?_ (fun h₁ hn k => ?_) hco hgen hk
  · intro z hz
    simp only [List.mem_cons, List.not_mem_nil, or_false] at hz
    rcases hz with rfl | rfl
    · exact hs3
    · exact hs4
  have X₁ : K.In h₁ := X.keeps k
  have hx₁ := k _ _ hx
  obtain ⟨oD, hD1, hD2⟩ := zxv X₁ hC
  show _root_.PySem.wpAt (model prog w) (A.deeper (ksEnv qual sco h.objs.size fI (.ref cda) cc)) (.func _ (ksEnv qual sco h.objs.size fI (.ref cda) cc)) (execs _ (ksEnv qual sco h.objs.size fI (.ref cda) cc)) _ _ ⟨h₁, g, d, t + 2, os⟩
  obtain ⟨hin, hsw1, hsw2, hst, hcon⟩ := hsm h.objs.size
  refine ks_wpAt_execs_cons (ks_wpAt_Expr_any (ks_wpAt_MethodCall (pl := pl) ?_ (hev _)) hin hsw1)
  · refine ks_wpAt_super_base (env := ksEnv qual sco h.objs.size fI (.ref cda) cc) hs1 hs2 rfl rfl (X₁ _ _ ho) rfl har rfl (X₁ _ _ hcode) rfl hvs hfile T.top ?_
    refine ks_loadName_global hk hs1 (loadGlobal_builtin (env := ksEnv qual sco h.objs.size fI (.ref cda) cc) (hg.keeps k) T.nsup (hbn.keeps k) ((hbb _ (by decide +kernel)).trans (by first | rfl | decide +kernel)) ⟨rfl, ?_⟩)
    refine wpAny_loadName_free hk hs2 rfl ⟨_, X₁ _ _ hcc, rfl⟩ ?_
    rw [ean]
    refine wpAny_loadName_local hk hs3 hn (v := .ref x) (by show List.lookup ("self" : Str) [(y, v), ("self", Value.ref x)] = _; rw [List.lookup, show (("self" : Str) == y) = false from beq_eq_false_iff_ne.mpr (Ne.symm hys)]; rfl) ?_
    refine ks_wpAny_isType_cls hD1 hD2 ⟨rfl, ?_⟩
    refine ks_wpAny_call_super hD1 hD2 hx₁ rfl (fun c e => (by cases e)) (looks_mroIn X₁ T.self) (fun h₂ hso k₂ => ?_)
    have X₂ : K.In h₂ := X₁.keeps k₂
    have I₂ : InstAt h₂ x (excO C t0) C none := ⟨k₂ _ _ hx₁, rfl, rfl, trivial⟩
    have hxC : x ≠ C := ks_ne X₂ I₂ hC
    have hf : alongIn K "__init__" ((cd.mro.dropWhile (· != .ref C)).drop 1) = some (some (.builtin "Exception.__init__")) := by
      have := T.sup
      unfold ks_superIn at this
      rw [hC] at this
      exact this
    refine ESX.getMethod_super hso (looks_opaque X₂ T.third) (l₀ := cd.mro) ?_ rfl X₂ hf hxC rfl ?_ ?_
    · exact fun A Q E s kk q => wpAny_bind ((looks_clsIn X₂ hC) A _ E s kk (wpAny_pure q))
    · exact I₂.type.andThen (looks_subIn X₂ T.exE)
    · have hx₂ := k₂ _ _ hx₁
      have kp : ∀ b o, h₂.get? b = some o → (h₂.push (ESX.bw x)).get? b = some o := fun b o e => Heap.get?_push_of_some _ e
      have hu : (h₂.push (ESX.bw x)).get? h₂.objs.size = some (ESX.bw x) := Heap.get?_push_at rfl rfl
      obtain ⟨nm, N, qn, bs, bm, hdct, sn, sub, ab, col, dd, k0, k1, k3, k5, k6, hCo, _⟩ := excInit_of X₂ T.ini
      refine ESX.callWith_bound (x := x) ?_ (hst.trans rfl) rfl
      rw [hst]
      refine Calls.spliced_cons ?_
      show wpAny (model prog w) _ (eval (.Constant (.str msg) j q4) _) _ _ _
      refine hcon _ _ _ _ _ fun s₃ tk₃ e1 e2 e3 e4 => ?_
      obtain ⟨h₃, g₃, d₃, t₃, os₃⟩ := s₃
      dsimp only at e1 e2 e3 e4
      subst e1 e2 e3 e4
      refine Calls.spliced_nil ⟨hu, ?_⟩
      refine ESX.call_bw (kp _ _ hCo) (kp _ _ hx₂) hu (by rw [sizeLine_eq]; exact (by decide : 1 ≤ 16777216)) fun h₄ t1 k₄ hx₄ => ?_
      have old₁ : ∀ b o, b ≠ x → h₁.get? b = some o → h₄.get? b = some o := fun b o hb e => k₄ b o hb (kp b o (k₂ b o e))
      have old : ∀ b o, b ≠ x → h.get? b = some o → h₄.get? b = some o := fun b o hb e => old₁ b o hb (k b o e)
      have hxL : h.objs.size ≠ x := Nat.ne_of_gt (Heap.lt_size hx)
      have X₄ : K.In h₄ := fun a o e => old a o (fun z => by rw [z, nX] at e; cases e) (X a o e)
      dsimp only
      have hn₄ : h₄.Ns h.objs.size (fun z => List.lookup z ([(("self" : Str), Value.ref x), (y, v)].reverse)) := by
        obtain ⟨oL, es, ep, hL, r⟩ := hn
        exact ⟨oL, es, ep, old₁ _ _ hxL hL, r⟩
      refine ks_wpAt_execs_cons (wpAt_of_wpAny (plainObj_wpAny_Assign_Attribute ?_ hsw2))
      refine ESX.ldL (v := v) hn₄ (by show List.lookup y [(y, v), ("self", Value.ref x)] = _; rw [List.lookup, show (y == y) = true from beq_self_eq_true y]) ?_ hk hs4 hyd
      refine ESX.ldL (v := .ref x) hn₄ (by show List.lookup ("self" : Str) [(y, v), ("self", Value.ref x)] = _; rw [List.lookup, show (("self" : Str) == y) = false from beq_eq_false_iff_ne.mpr (Ne.symm hys)]; rfl) ?_ hk hs3 (by decide)
      refine set_plain X₄ (ox := excO C t1) (od := none) ⟨hx₄, rfl, rfl, trivial⟩ T.sa ?_
      refine zyc X₄ hx₄ T.ov T.nof T.hd fun h₅ tk₅ dx k₅ dn dne hx₅ hn₅ => ?_
      dsimp only
      refine wpAt_of_wpAny (wpAny_execs_nil ?_)
      refine hq h₅ tk₅ dx t1 ⟨fun b o hb e => k₅ b o hb (old b o hb e), hx₅, Nat.le_of_lt (Nat.lt_of_lt_of_le hn₄.lt dn), dne, hn₅⟩
/-- a made one -/
structure Made (h h' : Heap) (e C dx : Addr) (f : Str) (v : Value) : Prop where
  keep : ∀ b o, h.get? b = some o → h'.get? b = some o
  new : h.objs.size ≤ e
  obj : ∃ oe vs, h'.get? e = some oe ∧ oe.cls = .ref C ∧ oe.dict = some dx ∧ oe.data = .fields vs ∧ vs[1]? = some .none
  dbig : h.objs.size ≤ dx
  dne : dx ≠ e
  ns : h'.Ns1 dx (fun z => if z = f then some v else none)
theorem zvb (v : Value) : [v].length ≤ sizeLine := by
  rw [sizeLine_eq]
  exact (by decide : 1 ≤ 16777216)
theorem zt8 (T : XTxt prog K mg C fI y f) {v : Value} {h : Heap} {g : Array GenState} {d : Drawn} {t : Nat} {os : OsState} (X : K.In h) (hlim : h.NoLimit) (hg : h.Ns mainGlobals mg) (hb : ∃ mb, h.Ns builtinsNs mb ∧ ∀ x : Str, x ≠ "__name__" → mb x = bootBuiltins x) (hroom : A.depth + 1 < recursionLimit)
    (hq : ∀ h' tk e dx, Made h h' e C dx f v → R (.ok (.ret (.ref e))) ⟨h', g, d, tk, os⟩) :
    codeAny (model prog w) A (.call (.ref C) ⟨[v], []⟩) R ⟨h, g, d, t, os⟩ := by
  obtain ⟨nm, N, qn, bs, bm, hdct, sn, sub, ab, col, dd, k0, k1, k3, k5, k6, hCo, hbm⟩ := excInit_of X T.ini
  have k : ∀ b o, h.get? b = some o → ((h.push (kdv_tup [v])).push (excO C h.objs.size)).get? b = some o := fun b o e => Heap.get?_push_of_some _ (Heap.get?_push_of_some _ e)
  have hget : ((h.push (kdv_tup [v])).push (excO C h.objs.size)).get? (h.objs.size + 1) = some (excO C h.objs.size) := by heap_get
  have nX : K.lookup (h.objs.size + 1) = none := by
    cases e : K.lookup (h.objs.size + 1) with
    | none => rfl
    | some o =>
      have z := Heap.lt_size (X _ _ e)
      exact absurd (Nat.lt_of_succ_lt z) (Nat.lt_irrefl _)
  have hft : typeIn K (.ref fI) = some (.type "function") := by
    have := T.isf
    unfold isFn at this
    exact beq_iff_eq.mp this
  obtain ⟨mb, hbn, hbb⟩ := hb
  refine HandSPX.call_own PySem.F.excBase_Exception hbm hCo (looks_findIn X T.iC) (fun self => bind_fn X self hft) (zvb v) ?_
  refine zu7 T (X.keeps k) (hlim.keeps k) (hg.keeps k) ⟨mb, hbn.keeps k, hbb⟩ hget nX hroom fun h' tk' dx t1 M => ?_
  have old : ∀ b o, h.get? b = some o → h'.get? b = some o := fun b o e => M.keep b o (Nat.ne_of_lt (Nat.lt_succ_of_lt (Heap.lt_size e))) (k b o e)
  have z : h.objs.size + 1 + 1 ≤ dx := by
    have := M.dbig
    first
      | (simpa only [Heap.size_push] using this)
      | exact this
  exact ⟨rfl, hq h' tk' (h.objs.size + 1) dx ⟨old, Nat.le_succ _, ⟨_, _, M.obj, rfl, rfl, rfl, rfl⟩, Nat.le_trans (Nat.le_trans (Nat.le_succ _) (Nat.le_succ _)) z, M.dne, M.ns⟩⟩
end
end DX
namespace DL
open PySem PySem.Spec PyProof.Rows L2
theorem zu6 {v : V} {v' : Value} (r : RelV v v') (f z : Str) : RelO (List.lookup z [(f, v)]) (if z = f then some v' else none) := by
  by_cases h : z = f
  · subst h
    rw [if_pos rfl]
    have q : List.lookup z [(z, v)] = some v := by simp [List.lookup]
    rw [q]
    exact r
  · rw [if_neg h]
    have q1 : (z == f) = false := by simpa using h
    have q2 : List.lookup z [(f, v)] = none := by simp [List.lookup, q1]
    rw [q2]
    trivial
section
variable {X : Cx} {C fI : Addr} {y f : Str}
/-- C(e), an exception -/
def tMkX (C : Addr) (f : Str) (ta : TA) : L2.St → Hp → XK → Prop := fun σ H Q => ta σ H fun vs H1 => ∃ v, vs = [v] ∧ ∀ d, H1 d = none → Q (.ref C) (some d) (upd H1 d (.xd [(f, v)]))
theorem zy8 {x : Str} {a : Expr} {ta : TA} {p pos : Pos} {k : Nat} (T : DX.XTxt X.prog X.K X.mg C fI y f) (hm : X.mg x = some (.ref C)) (hr : Room k X.A) (ha : PA X [a] ta) (hg : Gl X x := by rfl)
    (he : starEach (a :: []) X.env = (false, eval a X.env) :: starEach [] X.env := by rfl) (hpl : (backTo pos (starEach [] X.env)).any (·.1) = false := by rfl) (hdb : (x == ("__debug__" : Str)) = false := by decide) :
    PMk X (.Call (.Name x p) [a] [] pos) (tMkX C f ta) := by
  intro pins s σ H Q I h
  refine wpAny_Call_Name_kw (ld_glob I hg hm ?_ hdb)
  refine PySem.W.callWith_K (h₀ := X.base) I.ok.mod.kin T.kC (thn (ha.run pos pins s σ H _ I h) fun us s1 hh => ?_) he hpl
  obtain ⟨vs, H1, I1, r1, v, ev, q1⟩ := hh
  subst ev
  refine ⟨I1.kIn, ?_⟩
  cases r1 with
  | cons rv rn =>
    rename_i v' us'
    cases rn
    show wpAny _ _ (call (.ref C) [v']) _ _ _
    have hlim := I1.nolimit
    have hbk := I1.bk
    obtain ⟨mb, hb1, hb2⟩ := I1.mod.blt
    obtain ⟨hp, g, dr, tk, os⟩ := s1
    refine wpAny_call (DX.zt8 T I1.kIn hlim (I1.mod.glob.keeps hbk) ⟨mb, hb1.keeps hbk, hb2⟩ (by have := hr.dp; omega) fun h' tk' e d M => ?_)
    show MkP X pins σ Q (.ref e) ⟨h', g, dr, tk', os⟩
    obtain ⟨oe, fv, hoe, hc, hd, hdat, h1⟩ := M.obj
    have hns := M.ns
    obtain ⟨G', g1, g2⟩ := restrict h' fun b => decide (b ≠ e)
    have gk : ∀ b, b ≠ e → G'.get? b = h'.get? b := fun b hb => g1 b (decide_eq_true hb)
    have ge : G'.get? e = none := g2 e (by simp)
    have old : ∀ b o, hp.get? b = some o → G'.get? b = some o := fun b o q => (gk b (Nat.ne_of_lt (Nat.lt_of_lt_of_le (Heap.lt_size q) M.new))).trans (M.keep b o q)
    have ob : ObjOk X.prog X.w (upd H1 d (.xd [(f, v)])) G' d (.xd [(f, v)]) :=
      ⟨_, hns.at (fun o q => (gk d M.dne).trans q), fun z => zu6 rv f z⟩
    have J : Inv X pins σ (upd H1 d (.xd [(f, v)])) ⟨G', g, dr, tk', os⟩ := I1.laid (t' := tk') old M.dbig ob
    refine ⟨e, oe, fv, ⟨G', g, dr, tk', os⟩, _, .ref C, some d, rfl, J, fun b o q => ?_, ge, hoe, ⟨hc, hd⟩, hdat, h1, ?_, rfl, I1.bare, raises_own T.exB T.tyC, q1 d (I1.hok.fresh M.dbig)⟩
    · by_cases hb : b = e
      · have q' : G'.get? b = some o := q
        rw [hb, ge] at q'; cases q'
      · exact (gk b hb).symm.trans q
    · rw [upd_ne (Ne.symm M.dne)]
      exact I1.hok.fresh M.new
end
end DL
namespace DL
open PySem PySem.Spec PyProof.Rows L2
/-- an exception: its class, its fields -/
structure XV where
  C : Addr
  fs : List (Str × D)
/-- what is wished of an exception, at the slots -/
abbrev DXK := XV → DSt → DHp → Prop
/-- .. by a caller -/
abbrev DXP := XV → DHp → Prop
structure XR (K : Ml) (H : Hp) (G : DHp) (x : XV) (cls : Value) (d : Option Addr) : Prop where
  cls : cls = .ref x.C
  fs : ∃ (dd : Addr) (ws : List (Str × V)), d = some dd ∧ G dd = none ∧ H dd = some (.xd ws) ∧ ws.map (·.1) = x.fs.map (·.1) ∧ VRs K H G (x.fs.map (·.2)) (ws.map (·.2))
theorem XR.ext {K : Ml} {H H' : Hp} {G G' : DHp} {x : XV} {cls : Value} {d : Option Addr} (hr : HR K H G) (e : Ext H G H' G') (h : XR K H G x cls d) : XR K H' G' x cls d := by
  obtain ⟨dd, ws, h1, h2, h3, h4, h5⟩ := h.fs
  obtain ⟨e1, e2⟩ := e.ex dd _ h3 h2
  exact ⟨h.cls, dd, ws, h1, e2, e1, h4, h5.ext hr e⟩
def zi1 [Bs] (K : Ml) (E : DXK) : WX := fun cls d σ H => ∃ x η G, SR K H G σ η ∧ HR K H G ∧ XR K H G x cls d ∧ E x η G
/-- .. whatever the slots are -/
def zq0 [Bs] (K : Ml) (E : DXK) : XK := fun cls d H => ∃ x G, Ext Bs.H0 Bs.G0 H G ∧ HR K H G ∧ XR K H G x cls d ∧ ∀ η, E x η G
theorem SR.blank [Bs] {K : Ml} {H : Hp} {G : DHp} {σ : L2.St} (x : Ext Bs.H0 Bs.G0 H G) : SR K H G σ (List.replicate σ.length Option.none) :=
  ⟨List.length_replicate, fun i d e => (by rw [List.getElem?_replicate] at e; split at e <;> cases e), x⟩
theorem zu3 [Bs] {K : Ml} {E : DXK} : ∀ cls d σ H, zq0 K E cls d H → zi1 K E cls d σ H := fun cls d σ H ⟨x, G, h1, h2, h3, h4⟩ => ⟨x, _, G, .blank h1, h2, h3, h4 _⟩
/-- a promise of a def that may raise -/
abbrev DRnX := List D → DHp → DVK → DXP → Prop
def zx2 (K : Ml) (r : DRnX) : Sp := fun vs H Q E => ∃ ds G P PX, VRs K H G ds vs ∧ HR K H G ∧ r ds G P PX ∧ (∀ d G' v H', P d G' → Ext H G H' G' → HR K H' G' → VR K H' G' d v → Q v H') ∧
  ∀ x G' cls d H', PX x G' → Ext H G H' G' → HR K H' G' → XR K H' G' x cls d → E cls d H'
abbrev FnX (P : Program) (w : World) (K : PySem.W.Frag) (mg : Str → Option Value) (base : Heap) (k : Nat) (f : Addr) (fd : FuncData) (ps : List Str) (sp : DRnX) : Prop := FnOk P w K mg base (L2.CX P w) k f fd ps (zx2 ⟨K, w⟩ sp)
section
variable {P : Program} {w : World} {K : PySem.W.Frag} {mg : Str → Option Value} {base : Heap}
/-- the rule for a def that may raise -/
theorem fn_x {x qual : Str} {st : Stmt} {f : Addr} {fd : FuncData} {N ps : List Str} {k : Nat} {sp : DRnX} (F : Fun K x qual st f fd) (S : FnScope N ps (defScope st)) (len : ∀ ds G Q E, sp ds G Q E → ds.length = ps.length) {T : DXK → DTS}
    (hp : ∀ [Bs] (U : DXK) (cdv : Value) (A : Around) (outer : List Env) (s : Shared) (H : Hp) (E : XK), Room k (A.deeper (envOfC qual (defScope st) s.heap.objs.size f cdv)) → Takes (cxOf (L2.CX P w) P w K mg base N qual (defScope st) f cdv A outer s H E) (zi1 ⟨K, w⟩ U) →
      PassesOwn (model P w) (cxOf (L2.CX P w) P w K mg base N qual (defScope st) f cdv A outer s H E).A (cxOf (L2.CX P w) P w K mg base N qual (defScope st) f cdv A outer s H E).env (cxOf (L2.CX P w) P w K mg base N qual (defScope st) f cdv A outer s H E).xe →
      PSsD (cxOf (L2.CX P w) P w K mg base N qual (defScope st) f cdv A outer s H E) (defBody st) (T U))
    (hs : ∀ ds G Q E, sp ds G Q E → T (fun x _ G' => E x G') { nx := fun _ G' => Q .non G', rt := Q } (zbj N ds) G) : FnX P w K mg base (k + 1) f fd ps sp := by
  refine F.okX S (fun vs H Q E h => ?_) (fun cdv A outer s H vs Q E hr h => ?_)
  · obtain ⟨ds, G, Q', X', q, _, t, _⟩ := h
    rw [q.length]
    exact len _ _ _ _ t
  · obtain ⟨ds, G, Q', X', q, hr', t, k', kx⟩ := h
    letI : Bs := ⟨H, G⟩
    refine ⟨zrz ⟨K, w⟩ (T fun x _ G' => X' x G'), hp _ cdv A outer s H E hr ?_ (passes_of rfl), zbj N ds, G, _, .st q (.refl _ _), hr', hs ds G Q' X' t, ?_⟩
    · exact (takes_of rfl rfl rfl rfl).imp fun cls d σ H' ⟨x, η, G', sr, hr2, xr, e⟩ => kx x G' cls d H' e sr.base hr2 xr
    · exact ⟨fun η G' σ H' p x _ r => k' _ _ _ _ p x r (by rw [VR]), fun d G' v H' p x r q => k' _ _ _ _ p x r q, fun _ _ _ _ p => p.elim, fun _ _ _ _ p => p.elim⟩
end
section
variable {X : Cx}
/-- raise C(e) -/
def zot (C : Addr) (f : Str) (U : DXK) (T : DTA) : DTS := fun _ η G => T η G fun ds G1 => match ds with
  | [y] => U ⟨C, [(f, y)]⟩ η G1
  | _ => False
theorem zpg [Bs] {C fI : Addr} {y f x : Str} {U : DXK} {a : Expr} {T : DTA} {p pos pos2 : Pos} {k : Nat} (hc : X.calm = true) (t : DX.XTxt X.prog X.K X.mg C fI y f) (hm : X.mg x = some (.ref C)) (hr : Room k X.A) (tk : Takes X (zi1 X.ml U)) (ha : PAD X [a] T) (hg : Gl X x := by rfl)
    (he : starEach (a :: []) X.env = (false, eval a X.env) :: starEach [] X.env := by rfl) (hpl : (backTo pos (starEach [] X.env)).any (·.1) = false := by rfl) (hdb : (x == ("__debug__" : Str)) = false := by decide) :
    PSD X (.Raise (some (.Call (.Name x p) [a] [] pos)) none pos2) (zot C f U T) :=
  PS.impI (ps_raise hc tk (zy8 t hm hr ha hg he hpl hdb)) fun _ _ σ H E _ ⟨η, G, F, sr, hr, tt, er⟩ => ⟨η, G, _, sr, hr, tt, fun ds G1 vs H1 p x1 r1 q1 => by
    split at p
    · rename_i y'
      obtain ⟨v, r, rfl, q2, q3⟩ := q1.uncons
      rw [q3.nil_of]
      refine ⟨v, rfl, fun d hd => ?_⟩
      have x2 : Ext H1 G1 (upd H1 d (.xd [(f, v)])) G1 := .laid hd
      refine ⟨⟨C, [(f, y')]⟩, η, G1, (sr.ext hr x1).ext r1 x2, r1.laid hd, ⟨rfl, d, [(f, v)], rfl, r1.free hd, upd_same, rfl, .cons (q2.ext r1 x2) .nil⟩, p⟩
    · exact p.elim⟩
/-- a call of a def that may raise -/
def dCX (sp : DRnX) (U : DXK) (T : DTA) : DTE := fun η G Q => T η G fun ds G1 => sp ds G1 Q fun x G2 => U x η G2
theorem zlo [Bs] {k : Nat} {f : Addr} {fd : FuncData} {ps : List Str} {sp : DRnX} {U : DXK} {x : Str} {p pos : Pos} {e : Expr} {es : List Expr} {T : DTA} (F : FnX X.prog X.w X.K X.mg X.base k f fd ps sp) (hr : Room k X.A) (hm : X.mg x = some (.ref f)) (hk : PySem.W.keepIn X.K (.ref f) = true) (hb : Binds X.K fd ps [])
    (tk : Takes X (zi1 X.ml U)) (ha : PAD X (e :: es) T) (hg : Gl X x := by rfl) (hdb : (x == ("__debug__" : Str)) = false := by decide) (he : starEach (e :: es) X.env = (false, eval e X.env) :: starEach es X.env := by rfl) (hpl : (backTo pos (starEach es X.env)).any (·.1) = false := by rfl) :
    PED X (.Call (.Name x p) (e :: es) [] pos) (dCX sp U T) :=
  PE.impI (pe_callS F hr hg hm hk hb (fun σ => passAt tk σ) ha hdb he hpl) fun _ _ σ H Q _ ⟨η, G, P, sr, hr, t, k⟩ => ⟨η, G, _, sr, hr, t, fun ds G1 vs H1 p x1 r1 q1 =>
    ⟨ds, G1, P, _, q1, r1, p, fun d G2 v H2 pd x2 r2 q2 => k d G2 v H2 pd (x1.trans x2) r2 q2, fun xv G2 cls d H2 pe x2 r2 xr => ⟨xv, η, G2, (sr.ext hr x1).ext r1 x2, r2, xr, pe⟩⟩⟩
end
section
variable {X : Cx}
/-- a base put in the place of another -/
theorem SR.rebase {b b' : Bs} {K : Ml} {H : Hp} {G : DHp} {σ : L2.St} {η : DSt} (h : @SR b K H G σ η) (x : Ext b'.H0 b'.G0 H G) : @SR b' K H G σ η := @SR.mk b' K H G σ η (@SR.len b _ _ _ _ _ h) (@SR.get b _ _ _ _ _ h) x
/-- the exceptions' ends: slot i is given up -/
def zxa (i : Nat) (F : zgf) : zgf := { nx := fun η G => F.nx (η.set i none) G, rt := F.rt, bk := fun η G => F.bk (η.set i none) G, ct := fun η G => F.ct (η.set i none) G }
/-- ends, from another base -/
theorem zfg.rebase {b b' : Bs} {K : Ml} {H H' : Hp} {G G' : DHp} {F : zgf} {E : Ends} (e : @zfg b K H G F E) (x0 : Ext b.H0 b.G0 H G) (x : Ext H G H' G') : @zfg b' K H' G' F E :=
  @zfg.mk b' K H' G' F E (fun η2 G2 σ2 H2 p x2 sr2 hr2 => @zfg.nx b _ _ _ _ _ e η2 G2 σ2 H2 p (x.trans x2) (SR.rebase (b := b') (b' := b) sr2 ((x0.trans x).trans x2)) hr2)
    (fun d2 G2 v2 H2 p x2 hr2 q => @zfg.rt b _ _ _ _ _ e d2 G2 v2 H2 p (x.trans x2) hr2 q)
    (fun η2 G2 σ2 H2 p x2 sr2 hr2 => @zfg.bk b _ _ _ _ _ e η2 G2 σ2 H2 p (x.trans x2) (SR.rebase (b := b') (b' := b) sr2 ((x0.trans x).trans x2)) hr2)
    (fun η2 G2 σ2 H2 p x2 sr2 hr2 => @zfg.ct b _ _ _ _ _ e η2 G2 σ2 H2 p (x.trans x2) (SR.rebase (b := b') (b' := b) sr2 ((x0.trans x).trans x2)) hr2)
/-- .. with slot i given up -/
theorem zfg.gone {b : Bs} {K : Ml} {H : Hp} {G : DHp} {F : zgf} {E : Ends} (i : Nat) (e : @zfg b K H G F E) : @zfg b K H G (zxa i F) ({ nx := fun σ' H' => E.nx (σ'.set i none) H', rt := E.rt, bk := fun σ' H' => E.bk (σ'.set i none) H', ct := fun σ' H' => E.ct (σ'.set i none) H' }) :=
  @zfg.mk b K H G _ _ (fun η2 G2 σ2 H2 p x2 sr2 hr2 => @zfg.nx b _ _ _ _ _ e _ G2 _ H2 p x2 (sr2.none i _) hr2)
    (fun d2 G2 v2 H2 p x2 hr2 q => @zfg.rt b _ _ _ _ _ e d2 G2 v2 H2 p x2 hr2 q)
    (fun η2 G2 σ2 H2 p x2 sr2 hr2 => @zfg.bk b _ _ _ _ _ e _ G2 _ H2 p x2 (sr2.none i _) hr2)
    (fun η2 G2 σ2 H2 p x2 sr2 hr2 => @zfg.ct b _ _ _ _ _ e _ G2 _ H2 p x2 (sr2.none i _) hr2)
/-- try: tb / except C as n: ts; oth: classes that pass by it, to U -/
def zxg (C : Addr) (oth : List Addr) (i : Nat) (U : DXK) (tb : DXK → DTS) (ts : Addr → XV → DTS) : DTS := fun F η G => tb (fun x η' G' => (x.C = C ∧ ∀ a, ts a x (zxa i F) (η'.set i (some (.ref a))) G') ∨ (x.C ∈ oth ∧ U x η' G')) F η G
/-- the suite's reading at the hand layer -/
def suT (K : Ml) (ts : XV → DTS) : Value → Option Addr → TS := fun cls d E σ H => ∃ x G, XR K H G x cls d ∧ HR K H G ∧ @zrz ⟨H, G⟩ K (ts x) E σ H
theorem zxx {a : Addr} {oe : Obj} {pn : List (Addr × Obj)} {cls : Value} {d : Option Addr} {sts : List Stmt} {ts : XV → DTS}
    (h : ∀ [Bs] (x : XV), XR X.ml Bs.H0 Bs.G0 x cls d → HR X.ml Bs.H0 Bs.G0 → PSsD (X.suite a ((a, oe) :: pn)) sts (ts x)) : PSs (X.suite a ((a, oe) :: pn)) sts (suT X.ml ts cls d) :=
  ⟨fun pins s σ H E I ⟨x, G, xr, hr, l⟩ => by
    letI : Bs := ⟨H, G⟩
    exact (h x xr hr).run pins s σ H E I l⟩
/-- the body's reading at the hand layer -/
def boT (K : Ml) (tb : DXK → DTS) : WX → TS := fun W E σ H => ∃ (b : Bs) (U : DXK), (∀ cls d σ H, @zi1 b K U cls d σ H → W cls d σ H) ∧ @zrz b K (tb U) E σ H
theorem zyl {Y : Cx} {sts : List Stmt} {tb : DXK → DTS} {W : WX} (tk : Takes Y W) (h : ∀ [Bs] (U : DXK), Takes Y (zi1 Y.ml U) → PSsD Y sts (tb U)) : PSs Y sts (boT Y.ml tb W) :=
  ⟨fun pins s σ H E I ⟨b, U, i, l⟩ => (@h b U (tk.imp i)).run pins s σ H E I l⟩
theorem zvf [Bs] {C : Addr} {oth : List Addr} {i : Nat} {x n : Str} {U : DXK} {body suite : List Stmt} {b₀ : Stmt} {np pos pos' : Pos} {tb : DXK → DTS} {ts : Addr → XV → DTS} (hs : X.stack = X.env :: X.outer) (hf : X.env.frame = some X.env.locals) (hN : X.N.Nodup) (hi : X.N[i]? = some n) (hln : X.env.kindOf n = some .local)
    (hm : X.mg x = some (.ref C)) (te : PySem.W.exmOne X.K (.ref C) (.ref C) = some true) (to : ∀ C' ∈ oth, PySem.W.exmOne X.K (.ref C') (.ref C) = some false) (tk : Takes X (zi1 X.ml U))
    (hb : ∀ [Bs] (U : DXK) (pn : List (Addr × Obj)) (xe : Value → Shared → Prop), Takes (X.tr pn xe) (zi1 X.ml U) → PassesOwn (model X.prog X.w) X.A X.env xe → PSsD (X.tr pn xe) body (tb U))
    (hsu : ∀ [Bs] (a : Addr) (oe : Obj) (cls : Value) (d : Option Addr) (pn : List (Addr × Obj)) (x : XV), Zc cls d oe → (∃ vs, oe.data = .fields vs) → XR X.ml Bs.H0 Bs.G0 x cls d → HR X.ml Bs.H0 Bs.G0 → PSsD (X.suite a ((a, oe) :: pn)) (b₀ :: suite) (ts a x))
    (hg : Gl X x := by rfl) (hdb : (x == ("__debug__" : Str)) = false := by decide) :
    PSD X (.Try body [.ExceptHandler (some (.Name x np)) (some n) (b₀ :: suite) pos'] [] [] pos) (zxg C oth i U tb ts) := by
  refine PS.impI (ps_try_as (i := i) (c := .ref C) (Wout := zi1 X.ml U) (tb := boT X.ml tb) (ts := fun a cls d => suT X.ml (ts a) cls d) hs hf hN hi hln ⟨hg, hdb, .inl hm⟩ tk (fun W pn xe t po => zyl (Y := X.tr pn xe) t fun U t' => hb U pn xe t' po) fun a oe cls d pn hz hv => zxx fun x xr hr => hsu a oe cls d pn x hz hv xr hr) ?_
  rintro _ _ σ H E _ ⟨η, G, F, sr, hr, t, er⟩
  refine ⟨⟨H, G⟩, _, ?w, η, G, F, sr.rebase (.refl _ _), hr, t, ?e⟩
  case w =>
    rintro cls d σ' H' ⟨x, η', G', sr', hr', xr, e⟩
    have xb : Ext H G H' G' := @SR.base ⟨H, G⟩ _ _ _ _ _ sr'
    have ec := xr.cls
    rcases e with ⟨e1, e2⟩ | ⟨e1, e2⟩
    · refine ⟨true, by rw [ec, e1]; exact te, fun _ a ha => ⟨x, G', xr, hr', η'.set i (some (.ref a)), G', _, ?_, hr', e2 a, ?_⟩, fun q => (nomatch q)⟩
      · exact @SR.set X.ml H' G' _ _ ⟨H', G'⟩ (SR.rebase (b := ⟨H, G⟩) (b' := ⟨H', G'⟩) sr' (.refl _ _)) _ _ i (by rw [VR])
      · exact zfg.gone (b := ⟨H', G'⟩) i (zfg.rebase (b' := ⟨H', G'⟩) er sr.base xb)
    · exact ⟨false, by rw [ec]; exact to _ e1, fun q => (nomatch q), fun _ => ⟨x, η', G', SR.rebase (b := ⟨H, G⟩) sr' (sr.base.trans xb), hr', xr, e2⟩⟩
  case e => exact zfg.rebase er sr.base (.refl _ _)
/-- n.f, n the exception that the suite holds -/
def dXF (a C : Addr) (x : XV) (f : Str) (T : DTE) : DTE := fun η G Q => T η G fun d G1 => d = .ref a ∧ x.C = C ∧ ∃ y, x.fs.lookup f = some y ∧ Q y G1
theorem zyw [Bs] {a C : Addr} {oe : Obj} {cls : Value} {d : Option Addr} {pn : List (Addr × Obj)} {x : XV} {e : Expr} {T : DTE} {pos : Pos} {n : Str} (t : XfC X.K C) (hno : PySem.W.findIn X.K (.ref C) n = some none)
    (hz : Zc cls d oe) (hv : ∃ vs, oe.data = .fields vs) (xr : XR X.ml Bs.H0 Bs.G0 x cls d) (hb : HR X.ml Bs.H0 Bs.G0) (he : PED (X.suite a ((a, oe) :: pn)) e T) (hbs : attributeBase e n X.env (eval e X.env) = eval e X.env := by rfl) :
    PED (X.suite a ((a, oe) :: pn)) (.Attribute e n pos) (dXF a C x n T) :=
  PE.impI (pe_xf t hno hz hv he hbs) fun _ _ σ H Q _ ⟨η, G, P, sr, hr, t, k⟩ => ⟨η, G, _, sr, hr, t, fun y G1 v H1 ⟨p1, p2, y', p3, p4⟩ x1 r1 q1 => by
    have xr1 : XR X.ml H1 G1 x cls d := xr.ext hb (sr.base.trans x1)
    obtain ⟨dd, ws, h1, h2, h3, h4, h5⟩ := xr1.fs
    obtain ⟨u, hu, q⟩ := zt2 h4 h5 p3
    subst p1
    rw [VR] at q1
    exact ⟨q1, by rw [xr.cls, p2], dd, ws, u, h1, h3, hu, k _ _ _ _ p4 x1 r1 q⟩⟩
end
end DL
namespace DL
open PySem PySem.Spec PyProof.Rows L2
/-- no exception is wished -/
theorem zra [Bs] {X : Cx} : Takes X (zi1 X.ml fun _ _ _ => False) := fun _ _ x => by
  obtain ⟨a, B, sI, pins, σ, H, cls, d, e, I, nb, up, sky, na, os, ag, w⟩ := x
  obtain ⟨_, _, _, _, _, _, w⟩ := w
  exact w.elim
end DL
namespace DL
open PySem PySem.Spec PyProof.Rows L2
end DL
namespace DL
open PySem PySem.Spec PyProof.Rows L2
end DL
namespace L2
open PySem PySem.Spec PyProof.Rows
/-- a block's context, with an end for exceptions -/
abbrev Cx.blx (X : Cx) (s : Shared) (H : Hp) (scope : Scope) (cenv : Env) (fp : List Addr) (xe : Value → Shared → Prop) : Cx := { X with s_0 := s, H_0 := H, env := cenv, outer := X.stack, ex := fp, fn := fun x => scope.names.lookup x == some .cell, pn := [], xe := xe }
section
variable {X : Cx} {pins : List (Addr × Obj)} {σ : St} {H H3 : Hp} {s s3 sI s' : Shared} {scope : Scope} {cenv : Env} {fp : List Addr} {xe : Value → Shared → Prop} {E : XK}
theorem Inv.toBlx (I : Inv (X.blk s3 H3 scope cenv fp) pins σ H s) : Inv (X.blx s3 H3 scope cenv fp xe) pins σ H s :=
  ⟨⟨I.ok.mod, I.ok.kind, I.ok.glob, I.ok.blt, I.ok.above, I.ok.inj, I.ok.has, I.ok.cab, I.ok.hd, I.ok.frames, I.ok.stk, I.ok.exf, I.ok.bs, I.ok.bsz, I.ok.noex, I.ok.exfs, I.ok.funs, I.ok.frf⟩, I.os, I.bare, I.base, I.loc, I.cell, I.free, I.freeC, I.pin, I.hok, I.len⟩
/-- a call's exception is in our air: in flight -/
theorem zqa (I : Inv X pins σ H s) {u : Value} (c : CX X.prog X.w X.stack H s E u s') :
    ∃ (a : Addr) (B : Heap) (sI : Shared) (H' : Hp) (cls : Value) (d : Option Addr), u = .ref a ∧ Inv X pins σ H' sI ∧ (∀ b o, sI.heap.get? b = some o → b ∉ frs X.stack → B.get? b = some o) ∧ sI.heap.UpToSlots s'.heap ∧
      HandSPX.FlyingZ B X.stack a (Zc cls d) s'.heap ∧ H' a = none ∧ s'.os = sI.os ∧ AllBare s'.gens ∧ E cls d H' := by
  obtain ⟨a, B, H', cls, d, rfl, fl, hok, ub, na, os, ag, hE⟩ := c
  obtain ⟨G, g1, g2⟩ := restrict s'.heap fun b => (B.get? b).isSome || decide (b ∈ frs X.stack)
  have st : B.StaysIn s'.heap := fl.1
  have gB : ∀ b o, B.get? b = some o → G.get? b = some o := fun b o e => by
    rw [g1 b (by simp [e])]
    exact st b o e
  have gF : ∀ b, b ∈ frs X.stack → G.get? b = s'.heap.get? b := fun b hb => g1 b (by simp [hb])
  have og : ∀ b o, G.get? b = some o → s'.heap.get? b = some o ∧ ((B.get? b).isSome = true ∨ b ∈ frs X.stack) := fun b o e => by
    cases q : ((B.get? b).isSome || decide (b ∈ frs X.stack)) with
    | false => rw [g2 b q] at e; cases e
    | true =>
      rw [g1 b q] at e
      exact ⟨e, by simpa [Bool.or_eq_true] using q⟩
  refine ⟨a, B, { s with heap := G, gens := s'.gens, drawn := s'.drawn, toks := s'.toks }, H', cls, d, rfl, ?_, fun b o e hb => ?_, Heap.UpToSlots.of_keeps fun b o e => (og b o e).1, fl, na, os, ag, hE⟩
  · refine I.call (ch := []) ⟨fun b o e n hb _ => gB b o (ub.keep b o e n hb), fun b o e n hb _ => ?_, fun b o e n _ => ub.free b o e n, fun b o e _ => ?_, ub.tups, ub.frzs, ub.tbls⟩ (hok.kept gB) ag (fun _ z => nomatch z)
    · obtain ⟨sl, q⟩ := ub.slot b o e hb
      exact ⟨sl, by rw [gF b hb]; exact q⟩
    · by_cases hb : b ∈ frs X.stack
      · obtain ⟨sl, q⟩ := ub.slot b o e hb
        exact ⟨_, by rw [gF b hb]; exact q⟩
      · obtain ⟨o', q⟩ := ub.there b o e hb
        exact ⟨o', gB b o' q⟩
  · obtain ⟨e', h⟩ := og b o e
    rcases h with h | h
    · obtain ⟨o', q⟩ := Option.isSome_iff_exists.mp h
      have z := st b o' q
      rw [e'] at z; cases z
      exact q
    · exact absurd h hb
/-- what a block's call lets out goes out of the def -/
theorem zr6 (hs : X.stack = X.env :: X.outer) (hf : X.env.frame = some X.env.locals) (I0 : Inv X pins σ H3 s3) (hcf : cenv.frame = X.env.frame) (hL : s3.heap.objs.size ≤ cenv.locals) (hfp : ∀ b ∈ fp, FpOk X pins H3 b ∧ b < s3.heap.objs.size)
    (tk : Takes X fun cls d _ H => E cls d H) (hxe : xe = notedBy (model X.prog X.w) X.A cenv (CompFails (model X.prog X.w) X.A X.xe cenv)) (σ' : St) : PassesAt (L2.CX X.prog X.w) (X.blx s3 H3 scope cenv fp xe) σ' E := by
  intro pins' H1 s1 e s' I c
  obtain ⟨a, B, sI, H', cls, d, rfl, I', nb, up, fl, na, os, ag, w⟩ := zqa I c
  have fl : HandSPX.FlyingZ B X.stack a (Zc cls d) s'.heap := fl
  have nb : ∀ b o, sI.heap.get? b = some o → b ∉ frs X.stack → B.get? b = some o := nb
  have hfr : X.A.frames = some (X.env :: X.outer) := by rw [I0.ok.frames, hs]
  have hCf : cenv.locals ∉ frs X.stack := fun hm => by
    rw [hs] at hm
    rcases List.mem_cons.mp (I0.stkSub _ (by rw [hs]; exact hm)) with z | z
    · have := I0.lt
      rw [z] at hL
      exact absurd (Nat.lt_of_lt_of_le this hL) (Nat.lt_irrefl _)
    · obtain ⟨_, o, ho, _⟩ := I0.ok.funs.mem z
      exact absurd (Nat.lt_of_lt_of_le (Heap.lt_size ho) (Nat.le_trans I0.sz hL)) (Nat.lt_irrefl _)
  show xe (.ref a) s'
  rw [hxe]
  show wpAny _ X.A (noteFrame (.ref a) cenv) _ _ s'
  rw [(show noteFrame (.ref a) cenv = noteFrame (.ref a) X.env from by unfold noteFrame PySem.frameOf; rw [hcf])]
  rw [hs] at fl
  refine HandSPX.looks_onZ Zc.steady hfr hf fl fun h1 hh up1 => ?_
  obtain ⟨m, hn, _⟩ := I'.loc
  have hn : sI.heap.Ns cenv.locals m := hn
  have nsUp : ∀ {h h' : Heap}, h.Ns cenv.locals m → h.UpToSlots h' → h'.Ns cenv.locals m := fun {h h'} hn hk => by
    obtain ⟨oL, es, ep, hoL, hdL, r⟩ := hn
    obtain ⟨sl, e⟩ := hk _ oL hoL fun vs q => by rw [hdL] at q; cases q
    exact ⟨_, es, ep, e, hdL, r⟩
  have hn1 := nsUp (nsUp hn up) up1
  refine ⟨m, hn1, fun h2 m2 hn2 hs2 => ?_⟩
  -- the ground without the block's names
  have hB' : ∀ b o, (PySem.W.hideAll B [cenv.locals]).get? b = some o → B.get? b = some o ∧ b ≠ cenv.locals := fun b o e => ⟨PySem.W.of_hideAll _ e, fun z => by
    rw [z, PySem.W.hideAll_none [cenv.locals] (List.mem_singleton.mpr rfl)] at e; cases e⟩
  have toB' : ∀ b o, B.get? b = some o → b ≠ cenv.locals → (PySem.W.hideAll B [cenv.locals]).get? b = some o := fun b o e n => PySem.W.hideAll_get _ e (by simpa using n)
  have noneB' : ∀ b, B.get? b = none → (PySem.W.hideAll B [cenv.locals]).get? b = none := fun b e => by
    cases q : (PySem.W.hideAll B [cenv.locals]).get? b with
    | none => rfl
    | some o => rw [(hB' b o q).1] at e; cases e
  have ff : ∀ (l : List Env) {h : Heap}, h.FunFrames B l → h.FunFrames (PySem.W.hideAll B [cenv.locals]) l := by
    intro l
    induction l with
    | nil => intro _ _; trivial
    | cons env r ih => intro h ⟨hk, ⟨L', o, hf', hb, ho, hd⟩, hr⟩; exact ⟨hk, ⟨L', o, hf', noneB' _ hb, ho, hd⟩, ih hr⟩
  obtain ⟨b1, b0, f1, oe, vs, T, oT, ts, he, hz, hd, hv1, hnT, hTe, hT, hdT, h3⟩ := hh
  obtain ⟨oL, es, ep, hoL, hdL, _⟩ := hn1
  have ae : a ≠ cenv.locals := fun z => by rw [z, hoL] at he; cases he; rw [hdL] at hd; cases hd
  have Te : T ≠ cenv.locals := fun z => by rw [z, hoL] at hT; cases hT; rw [hdL] at hdT; cases hdT
  have hh2 : HandSPX.HeldZ (PySem.W.hideAll B [cenv.locals]) (X.env :: X.outer) a (Zc cls d) X.env.locals h2 :=
    ⟨fun b o e => (hs2.2 b (hB' b o e).2).trans (b1 b o (hB' b o e).1), noneB' _ b0, ff _ (Heap.FunFrames.sameBut hs2 hn2 f1), oe, vs, T, oT, ts, (hs2.2 a ae).trans he, hz, hd, hv1, noneB' _ hnT, hTe, (hs2.2 T Te).trans hT, hdT, h3⟩
  unfold PySem.passOn
  refine wpAny_bind (wpAny_field ((hs2.2 a ae).trans he) hd hv1 ?_)
  rw [if_neg (show ¬ ((Value.ref T == Value.none) = true) from by simp)]
  rw [hcf, hf]
  refine wpAny_bind (HandSPX.setFlight_onZ hh2 fun h3 hh3 up3 => wpAny_throw ?_)
  refine tk (.ref a) _ ⟨a, PySem.W.hideAll B [cenv.locals], { sI with heap := PySem.W.hideAll sI.heap [cenv.locals] }, pins, σ, H', cls, d, rfl, ?_, fun b o e hb => ?_, fun b o e hnf => ?_, .inr (.inr (by rw [hs]; exact hh3)), na, os, ag, w⟩
  · -- the def's state without the block
    have gs : ∀ b o, sI.heap.get? b = some o → b ≠ cenv.locals → (PySem.W.hideAll sI.heap [cenv.locals]).get? b = some o := fun b o e n => PySem.W.hideAll_get _ e (by simpa using n)
    have sz : ∀ b o, s3.heap.get? b = some o → b ≠ cenv.locals := fun b o e z => by
      have := Heap.lt_size e
      rw [z] at this
      exact absurd (Nat.lt_of_lt_of_le this hL) (Nat.lt_irrefl _)
    have ub := I'.base
    refine I0.call' (ch := fp) I'.os ⟨fun b o e n h1 h2 => gs b o (ub.keep b o e n h1 h2) (sz b o e), fun b o e n h1 h2 => ?_, fun b o e n h => ub.free b o e n h, fun b o e h => ?_, ub.tups, ub.frzs, ub.tbls⟩ ?_ I'.bare fun b hb => ⟨(hfp b hb).1.2.2.2.1, (hfp b hb).1.2.1, (hfp b hb).1.2.2.2.2.1, (hfp b hb).1.2.2.2.2.2⟩
    · obtain ⟨sl, q⟩ := ub.slot b o e n h1 h2
      exact ⟨sl, gs b _ q (sz b o e)⟩
    · obtain ⟨o', q⟩ := ub.there b o e h
      exact ⟨o', gs b _ q (sz b o e)⟩
    · intro b o q
      exact (I'.hok b o q).stay (fun c u hc r => gs c u r fun hm => by
        have z : H' cenv.locals = none := I'.free
        rcases hc with hc | hc
        · rw [← hc, hm, z] at q; cases q
        · rw [hm, z] at hc; cases hc) (fun _ r => r) fun _ _ r => r
  · have e : (PySem.W.hideAll sI.heap [cenv.locals]).get? b = some o := e
    have n : b ≠ cenv.locals := fun z => by rw [z, PySem.W.hideAll_none [cenv.locals] (List.mem_singleton.mpr rfl)] at e; cases e
    exact toB' b o (nb b o (PySem.W.of_hideAll _ e) hb) n
  · have e : (PySem.W.hideAll sI.heap [cenv.locals]).get? b = some o := e
    have n : b ≠ cenv.locals := fun z => by rw [z, PySem.W.hideAll_none [cenv.locals] (List.mem_singleton.mpr rfl)] at e; cases e
    obtain ⟨sl, q⟩ := (up.trans up1) b o (PySem.W.of_hideAll _ e) hnf
    have q2 := (hs2.2 b n).trans q
    exact up3 b _ q2 hnf |>.elim fun sl2 q3 => ⟨sl2, q3⟩
end
section
variable {X : Cx}
/-- a list comprehension whose element may raise -/
theorem zxu {elt tg iter : Expr} {ifs : List Expr} {scope : Scope} {own : List (Str × Nat)} {pos : Pos} {wi : TI} {g : TG} {tt : TT} {te : TE} {E0 : XK} (hc : X.calm = true) (hN : X.N.Nodup) (hst : X.stack = X.env :: X.outer) (hfr : X.env.frame = some X.env.locals) (tk : Takes X fun cls d _ H => E0 cls d H)
    (hi : PI X tg iter wi) (ok : BlkOk X.N X.env.scope scope own)
    (hg : ∀ (s : Shared) (H : Hp) (C : Addr) (cl : List (Str × Addr)) (fp : List Addr) (xe : Value → Shared → Prop), PG (X.blx s H scope (compEnvC scope cl C X.env) fp xe) tg g) (ht : ∀ (s : Shared) (H : Hp) (C : Addr) (cl : List (Str × Addr)) (fp : List Addr) (xe : Value → Shared → Prop), PTs (X.blx s H scope (compEnvC scope cl C X.env) fp xe) ifs tt)
    (he : ∀ (s : Shared) (H : Hp) (C : Addr) (cl : List (Str × Addr)) (fp : List Addr) (xe : Value → Shared → Prop), (∀ σ, PassesAt (L2.CX X.prog X.w) (X.blx s H scope (compEnvC scope cl C X.env) fp xe) σ E0) → PE (X.blx s H scope (compEnvC scope cl C X.env) fp xe) elt te) (hs : ∀ x, foldedSetIterable iter X.env x = pure x := by intro _; rfl) :
    PE X (.ListComp elt [⟨tg, iter, ifs, 0⟩] scope pos) (tLc wi g tt te (own.map (·.2))) := by
  refine ⟨fun pins s σ H Q I h => ?_⟩
  rw [eval_ListComp]
  have hfree : ∀ y ∈ scope.names, y.2 = .free → ∃ c, X.env.cells.lookup y.1 = some c := fun y hy e => by
    rcases ok.free y hy e with k | k
    · exact I.ok.has _ (.inl k)
    · exact I.ok.has _ (.inr k)
  refine comprehension_at (use := none) rfl hs (closure_ok hfree) ok.kind (fun y hy e => by rw [ok.uniq y hy, e])
    (thn (hi.run pins s σ H _ I h) fun xv s1 hx => thn hx fun itv s2 h2 => ?_)
  obtain ⟨it, fp, tn, J, H2, e, I2, T, st2, f2, q⟩ := h2
  subst e
  refine wpAny_newObj_type (newEnv_comp ?_) (by show 0 ≤ sizeLine; decide)
  generalize hD : s2.heap.objs.size = D
  have hDn : H2 D = none := I2.hok.fresh (Nat.le_of_eq hD)
  obtain ⟨W, ⟨m0, w0⟩, turn⟩ := q D hDn
  -- the new list
  generalize hs3 : ({ s2 with heap := s2.heap.push { cls := .type "list", data := .seq ([] : List Value).toArray } } : Shared) = s3
  have I3 : Inv X pins σ (upd H2 D (.lst [])) s3 := by
    rw [← hs3]
    refine I2.laid (t' := s2.toks) (fun b o e => Heap.get?_push_of_some _ e) (Nat.le_of_eq hD) ⟨Nat.zero_le _, [], 0, .nil, ?_⟩
    rw [← hD]
    exact Heap.get?_push_size _ rfl
  have h3 : s3.heap = s2.heap.push { cls := .type "list", data := .seq ([] : List Value).toArray } := by rw [← hs3]
  have sz : ∀ b ∈ fp, b < s2.heap.objs.size := fun b hb => by
    obtain ⟨o, e, _⟩ := T.obj _ _ st2 b hb
    exact Heap.lt_size e
  have f3 : ∀ b ∈ fp, FpOk X pins (upd H2 D (.lst [])) b ∧ b < s3.heap.objs.size := fun b hb => by
    have hlt := sz b hb
    refine ⟨⟨?_, (f2 b hb).2⟩, by rw [h3, Heap.size_push]; exact Nat.lt_succ_of_lt hlt⟩
    rw [upd_ne (by rw [← hD]; exact Nat.ne_of_lt hlt)]
    exact (f2 b hb).1
  have st3 : tn 0 s3.heap := T.keep _ _ _ st2 fun b _ o e => by rw [h3]; exact Heap.get?_push_of_some _ e
  have I4 := block_start I3 ok hN f3
  have cfr : (compEnvC scope (cellsFrom (s3.heap.objs.size + 1) scope.names (cloFrom X.env.cells scope.names [])) s3.heap.objs.size X.env).frame = X.env.frame := rfl
  have pgX := hg s3 (upd H2 D (.lst [])) s3.heap.objs.size (cellsFrom (s3.heap.objs.size + 1) scope.names (cloFrom X.env.cells scope.names [])) fp
  have ptX := ht s3 (upd H2 D (.lst [])) s3.heap.objs.size (cellsFrom (s3.heap.objs.size + 1) scope.names (cloFrom X.env.cells scope.names [])) fp
  have peX := he s3 (upd H2 D (.lst [])) s3.heap.objs.size (cellsFrom (s3.heap.objs.size + 1) scope.names (cloFrom X.env.cells scope.names [])) fp
  show codeAny _ _ (.compStart (.ListComp elt [⟨tg, iter, ifs, 0⟩] scope pos) 0 (.ref it) (.ref D) (compEnvC scope (cellsFrom (s3.heap.objs.size + 1) scope.names (cloFrom X.env.cells scope.names [])) s3.heap.objs.size X.env)) (compEnds (model X.prog X.w) X.A X.xe none (EP X pins σ Q) (.ref D) (compEnvC scope (cellsFrom (s3.heap.objs.size + 1) scope.names (cloFrom X.env.cells scope.names [])) s3.heap.objs.size X.env)) { s3 with heap := pushCells (s3.heap.push { cls := .type "dict", data := .dict #[] }) scope.names }
  have nfp : ∀ b ∈ fp, (upd H2 D (.lst [])) b = none := fun b hb => (f3 b hb).1.1
  generalize hce : compEnvC scope (cellsFrom (s3.heap.objs.size + 1) scope.names (cloFrom X.env.cells scope.names [])) s3.heap.objs.size X.env = ce at I4 pgX ptX peX cfr ⊢
  have cL : ce.locals = s3.heap.objs.size := by subst hce; rfl
  generalize hH3 : upd H2 D (.lst []) = H3 at I3 I4 pgX ptX peX w0 nfp f3
  generalize hXE : notedBy (model X.prog X.w) X.A ce (CompFails (model X.prog X.w) X.A X.xe ce) = XE0
  have I4 := I4.toBlx (xe := XE0)
  have pg := pgX XE0
  have pt := ptX XE0
  have pe := peX XE0 fun σ' => zr6 hst hfr I3 cfr (Nat.le_of_eq cL.symm) (fun b hb => f3 b hb) tk hXE.symm σ'
  generalize hs4 : ({ s3 with heap := pushCells (s3.heap.push { cls := .type "dict", data := .dict #[] }) scope.names } : Shared) = s4 at I4 ⊢
  have st4 : tn 0 s4.heap := T.keep _ _ _ st3 fun b _ o e => by rw [← hs4]; exact pushCells_keeps _ _ _ _ (Heap.get?_push_of_some _ e)
  have stat : ∀ {σ' : St} {H' : Hp} {s' : Shared}, Inv (X.blx s3 H3 scope ce fp XE0) [] σ' H' s' → (∀ b ∈ fp, H' b = none) → ∀ b ∈ fp, FpOk (X.blx s3 H3 scope ce fp XE0) [] H' b := fun {σ' H' s'} I' hn b hb =>
    ⟨hn b hb, (I'.ok.exf b hb).1, I'.ok.exfs b hb, .inl hb, fun x c e => (I'.ok.exf b hb).2 x c e, fun p hp => absurd (show p ∈ ([] : List (Addr × Obj)) ++ [] from hp) (by simp)⟩
  have loop : codeAny (model X.prog X.w) X.A (.compLoop (.ListComp elt [⟨tg, iter, ifs, 0⟩] scope pos) 0 (.ref it) (.ref D) ce) (compEnds (model X.prog X.w) X.A X.xe none (EP X pins σ Q) (.ref D) ce) s4 := by
    refine compLoop_any (R := compEnds (model X.prog X.w) X.A X.xe none (EP X pins σ Q) (.ref D) ce) (fun n s' => ∃ i H', Inv (X.blx s3 H3 scope ce fp XE0) [] (wipe σ (own.map (·.2))) H' s' ∧ tn i s'.heap ∧ (∀ b ∈ fp, H' b = none) ∧ W i n H') ?_ m0 ⟨0, H3, I4, st4, nfp, w0⟩
    rw [show (notedBy (model X.prog X.w) X.A ce fun e s' => compEnds (model X.prog X.w) X.A X.xe none (EP X pins σ Q) (.ref D) ce (.error e) s') = XE0 from hXE]
    rintro n s5 ⟨i, H5, I5, st5, n5, w5⟩
    rcases turn i n H5 w5 with ⟨stop, qq⟩ | ⟨go, Nx, hNx, step⟩
    · have td := T.done (X.blx s3 H3 scope ce fp XE0) rfl rfl rfl hc i [] s5 _ H5 XE0 I5 (stat I5 n5) st5 stop
      refine thn td fun r s6 ⟨hr, I6⟩ => ?_
      subst hr
      -- back in the def's context
      have I7 : Inv X pins σ H5 s6 := I3.call' (ch := fp) I6.os I6.base I6.hok I6.bare fun b hb => ⟨(f3 b hb).1.2.2.2.1, (f3 b hb).1.2.1, (f3 b hb).1.2.2.2.2.1, (f3 b hb).1.2.2.2.2.2⟩
      have nC : H5 s3.heap.objs.size = none := by
        have z : H5 ce.locals = none := I6.free
        rw [cL] at z
        exact z
      obtain ⟨m, hn, _⟩ := I6.loc
      have hn : s6.heap.Ns ce.locals m := hn
      rw [cL] at hn
      obtain ⟨g0, g1, g2, g3, g4, g5⟩ := I3.fpOk (Nat.le_refl _) nC
      refine ⟨m, by rw [cL]; exact hn, fun h'' sb => ?_⟩
      rw [cL] at sb
      exact ⟨.ref D, H5, I7.turned (t' := s6.toks) (fun b o hb e => (sb.2 b hb).trans e) g0 g1 g3 g4 g5, rfl, qq⟩
    · have ti := T.item (X.blx s3 H3 scope ce fp XE0) rfl rfl rfl hc i [] s5 _ H5 XE0 I5 (stat I5 n5) st5 go
      refine thn ti fun r s6 ⟨u, hr, h6⟩ => ?_
      subst hr
      refine thn h6 fun _ s7 ⟨x, H7, I7, r7, y7, st7, n7⟩ => ?_
      have I7' := I7.pinned (stat I7 n7) (T.obj _ _ st7)
      refine thn (pg.run _ s7 _ H7 x u _ I7' r7 (step x H7 y7)) fun _ s8 ⟨σ8, H8, I8, hw8, q8⟩ => ?_
      refine thn (pt.run _ s8 σ8 H8 _ I8 q8) fun b s9 ⟨H9, I9, q9⟩ => ?_
      -- the turn's end
      have fin : ∀ {s' : Shared} {H' : Hp}, Inv (X.blx s3 H3 scope ce fp XE0) ([] ++ pinsAt fp s7.heap) σ8 H' s' → Nx H' → ∃ m, m < n ∧ ∃ i H', Inv (X.blx s3 H3 scope ce fp XE0) [] (wipe σ (own.map (·.2))) H' s' ∧ tn i s'.heap ∧ (∀ b ∈ fp, H' b = none) ∧ W i m H' := fun {s' H'} I' nx => by
        obtain ⟨m', hm, w'⟩ := hNx H' nx
        have pin' : ∀ b ∈ fp, ∀ o, s7.heap.get? b = some o → s'.heap.get? b = some o ∧ H' b = none := fun b hb o e =>
          let z := I'.pin (b, o) (List.mem_append_right _ (List.mem_append_right _ (mem_pinsAt hb e)))
          ⟨z.1, z.2.1⟩
        have hl : (wipe σ (own.map (·.2))).length = σ8.length := by rw [← hw8, wipe_length]
        refine ⟨m', hm, i + 1, H', (I'.unpinned (pins := [])).weak hl (fun j v e => ?_), T.keep _ _ _ st7 fun b hb o e => (pin' b hb o e).1, fun b hb => ?_, w'⟩
        · rw [← hw8] at e
          exact (wipe_some e).1
        · obtain ⟨o, e, _⟩ := T.obj _ _ st7 b hb
          exact (pin' b hb o e).2
      cases b with
      | false =>
        simp only [Bool.false_eq_true, if_false] at q9 ⊢
        exact fin I9 q9
      | true =>
        simp only [if_true] at q9 ⊢
        refine thn (pe.run _ s9 σ8 H9 _ I9 q9) fun z s10 ⟨yv, H10, I10, r10, acc, hD10, hz10, nx⟩ => ?_
        exact app_ok (X := X.blx s3 H3 scope ce fp XE0) I10 hD10 hz10 r10 fun s11 I11 => fin I11 nx
  exact codeAny_compStart_list loop (T.self X.A 0 _ _ _ st4 loop)
end
end L2
namespace DL
open PySem PySem.Spec PyProof.Rows L2
section
variable {X : Cx}
/-- a call of a def that may raise, in such a block -/
def dCXp (sp : DRnX) (U : DXK) (T : DTA) : DTE := fun η G Q => T η G fun ds G1 => sp ds G1 Q fun x G2 => ∀ η, U x η G2
theorem zsd [Bs] {k : Nat} {f : Addr} {fd : FuncData} {ps : List Str} {sp : DRnX} {U : DXK} {x : Str} {p pos : Pos} {e : Expr} {es : List Expr} {T : DTA} (F : FnX X.prog X.w X.K X.mg X.base k f fd ps sp) (hr : Room k X.A) (hm : X.mg x = some (.ref f)) (hk : PySem.W.keepIn X.K (.ref f) = true) (hb : Binds X.K fd ps [])
    (hx : ∀ σ, PassesAt (L2.CX X.prog X.w) X σ (zq0 X.ml U)) (ha : PAD X (e :: es) T) (hg : Gl X x := by rfl) (hdb : (x == ("__debug__" : Str)) = false := by decide) (he : starEach (e :: es) X.env = (false, eval e X.env) :: starEach es X.env := by rfl) (hpl : (backTo pos (starEach es X.env)).any (·.1) = false := by rfl) :
    PED X (.Call (.Name x p) (e :: es) [] pos) (dCXp sp U T) :=
  PE.impI (pe_callS (E := fun _ => zq0 X.ml U) F hr hg hm hk hb hx ha hdb he hpl) fun _ _ σ H Q _ ⟨η, G, P, sr, hr, t, k⟩ => ⟨η, G, _, sr, hr, t, fun ds G1 vs H1 p x1 r1 q1 =>
    ⟨ds, G1, P, _, q1, r1, p, fun d G2 v H2 pd x2 r2 q2 => k d G2 v H2 pd (x1.trans x2) r2 q2, fun xv G2 cls d H2 pe x2 r2 xr => ⟨xv, G2, sr.base.trans (x1.trans x2), r2, xr, pe⟩⟩⟩
theorem zxp [Bs] {elt tg iter : Expr} {ifs : List Expr} {scope : Scope} {own : List (Str × Nat)} {is : List Nat} {pos : Pos} {wi : DTI} {g : DTG} {tt : DTT} {te : DTE} {U : DXK} (hc : X.calm = true) (hN : X.N.Nodup) (hst : X.stack = X.env :: X.outer) (hfr : X.env.frame = some X.env.locals) (tk : Takes X (zi1 X.ml U))
    (hi : PID X tg iter wi) (ok : BlkOk X.N X.env.scope scope own)
    (hg : ∀ (s : Shared) (H : Hp) (C : Addr) (cl : List (Str × Addr)) (fp : List Addr) (xe : Value → Shared → Prop), PGD (X.blx s H scope (compEnvC scope cl C X.env) fp xe) tg is g) (ht : ∀ (s : Shared) (H : Hp) (C : Addr) (cl : List (Str × Addr)) (fp : List Addr) (xe : Value → Shared → Prop), PTsD (X.blx s H scope (compEnvC scope cl C X.env) fp xe) ifs tt)
    (he : ∀ (s : Shared) (H : Hp) (C : Addr) (cl : List (Str × Addr)) (fp : List Addr) (xe : Value → Shared → Prop), (∀ σ, PassesAt (L2.CX X.prog X.w) (X.blx s H scope (compEnvC scope cl C X.env) fp xe) σ (zq0 X.ml U)) → PED (X.blx s H scope (compEnvC scope cl C X.env) fp xe) elt te)
    (hsub : ∀ i ∈ is, i ∈ own.map (·.2) := by decide) (hs : ∀ x, foldedSetIterable iter X.env x = pure x := by intro _; rfl) :
    PED X (.ListComp elt [⟨tg, iter, ifs, 0⟩] scope pos) (dLc wi g tt te (own.map (·.2))) :=
  PE.impI (zxu hc hN hst hfr (tk.imp fun cls d σ H h => zu3 cls d σ H h) hi ok hg ht he hs) fun _ _ _ _ _ _ h => zpy hsub h
end
end DL
namespace M
open PySem PySem.Spec PyProof.Rows L2 DL
abbrev Ce := Int × Int
def tch (a b : Ce) : Prop := (-1 ≤ a.1 - b.1 ∧ a.1 - b.1 ≤ 1) ∧ -1 ≤ a.2 - b.2 ∧ a.2 - b.2 ≤ 1
instance (a b : Ce) : Decidable (tch a b) := by unfold tch; infer_instance
theorem ze0 (a : Ce) : tch a a := by unfold tch; omega
theorem ze2 {a b : Ce} (h : tch a b) : tch b a := by unfold tch at h ⊢; omega
/-- from x to y through cells of S -/
inductive Way2 (S : List Ce) (x : Ce) : Ce → Prop
  | here : x ∈ S → Way2 S x x
  | on {y z : Ce} : Way2 S x y → z ∈ S → tch y z → Way2 S x z
theorem Way2.mono {S T : List Ce} (h : ∀ x ∈ S, x ∈ T) {x y : Ce} (w : Way2 S x y) : Way2 T x y := by
  induction w with
  | here hx => exact .here (h _ hx)
  | on _ hz t ih => exact .on ih (h _ hz) t
theorem Way2.last {S : List Ce} {x y : Ce} (w : Way2 S x y) : y ∈ S := by
  cases w with
  | here h => exact h
  | on _ h _ => exact h
theorem Way2.trans {S : List Ce} {x y z : Ce} (w : Way2 S x y) (v : Way2 S y z) : Way2 S x z := by
  induction v with
  | here _ => exact w
  | on _ hz t ih => exact .on ih hz t
theorem Way2.symm {S : List Ce} {x y : Ce} (w : Way2 S x y) : Way2 S y x := by
  induction w with
  | here h => exact .here h
  | on w hz t ih => exact Way2.trans (.on (.here hz) w.last (ze2 t)) ih
/-- blocks of cells: each hangs together, no two touch -/
structure zb4 (cells : List Ce) (L : List (List Ce)) : Prop where
  cov : ∀ x, x ∈ cells ↔ ∃ b ∈ L, x ∈ b
  ne : ∀ b ∈ L, b ≠ []
  hang : ∀ b ∈ L, ∀ x ∈ b, ∀ y ∈ b, Way2 b x y
  apart : L.Pairwise fun b b' => ∀ x ∈ b, ∀ y ∈ b', ¬ tch x y
  nd : ∀ b ∈ L, b.Nodup
theorem zqk {α : Type} {R : α → α → Prop} (sy : ∀ a b, R a b → R b a) : ∀ {L : List α}, L.Pairwise R → ∀ a ∈ L, ∀ b ∈ L, a ≠ b → R a b
  | [], _, a, ha, _, _, _ => by cases ha
  | x :: L, h, a, ha, b, hb, n => by
    obtain ⟨h1, h2⟩ := List.pairwise_cons.mp h
    rcases List.mem_cons.mp ha with e1 | ha2
    · rcases List.mem_cons.mp hb with e2 | hb2
      · exact absurd (e1.trans e2.symm) n
      · rw [e1]; exact h1 b hb2
    · rcases List.mem_cons.mp hb with e2 | hb2
      · rw [e2]; exact sy _ _ (h1 a ha2)
      · exact zqk sy h2 a ha2 b hb2 n
theorem zb4.far {cells : List Ce} {L : List (List Ce)} (P : zb4 cells L) {b b' : List Ce} (hb : b ∈ L) (hb' : b' ∈ L) (n : b ≠ b') : ∀ x ∈ b, ∀ y ∈ b', ¬ tch x y :=
  zqk (R := fun b b' => ∀ x ∈ b, ∀ y ∈ b', ¬ tch x y) (fun _ _ h x hx y hy t => h y hy x hx (ze2 t)) P.apart b hb b' hb' n
theorem zb4.mem {cells : List Ce} {L : List (List Ce)} (P : zb4 cells L) {b : List Ce} (hb : b ∈ L) {x : Ce} (hx : x ∈ b) {y : Ce} : y ∈ b ↔ Way2 cells x y := by
  constructor
  · intro hy
    exact (P.hang b hb x hx y hy).mono fun z hz => (P.cov z).mpr ⟨b, hb, hz⟩
  · intro w
    induction w with
    | here _ => exact hx
    | @on u v _ hv t ih =>
      obtain ⟨b', hb', hvb⟩ := (P.cov v).mp hv
      by_cases e : b = b'
      · rw [e]; exact hvb
      · exact absurd t (P.far hb hb' e u ih v hvb)
theorem zb4.nodup {cells : List Ce} {L : List (List Ce)} (P : zb4 cells L) : L.Nodup := by
  have h := P.apart
  have hn := P.ne
  clear P
  induction L with
  | nil => exact List.nodup_nil
  | cons b L ih =>
    obtain ⟨h1, h2⟩ := List.pairwise_cons.mp h
    refine List.nodup_cons.mpr ⟨fun hb => ?_, ih h2 fun b hb => hn b (List.mem_cons_of_mem _ hb)⟩
    cases e : b with
    | nil => exact hn b List.mem_cons_self e
    | cons x r =>
      have hx : x ∈ b := by rw [e]; exact List.mem_cons_self
      exact h1 b hb x hx x hx (ze0 x)
/-- the blocks are told by the cells alone -/
theorem zb4.same {cells : List Ce} {L L' : List (List Ce)} (P : zb4 cells L) (P' : zb4 cells L') {b : List Ce} (hb : b ∈ L) : ∃ b' ∈ L', b.Perm b' := by
  obtain ⟨x, hx⟩ := List.exists_mem_of_ne_nil _ (P.ne b hb)
  obtain ⟨b', hb', hx'⟩ := (P'.cov x).mp ((P.cov x).mpr ⟨b, hb, hx⟩)
  exact ⟨b', hb', zhj (P.nd b hb) (P'.nd b' hb') fun y => (P.mem hb hx).trans (P'.mem hb' hx').symm⟩
end M
namespace M
open PySem PySem.Spec PyProof.Rows L2 DL
section
variable {α : Type} {f : α → D}
theorem zua (cl : ∀ a, zah (f a) = true) (al : ∀ a b, PySem.W.alike (py (f a)) (py (f b)) = true) (fi : ∀ a b, f a = f b → a = b) {a b : α} (h : PySem.W.keyToks (py (f a)) = PySem.W.keyToks (py (f b))) : a = b := by
  cases e : PyData.eqv (py (f a)) (py (f b)) with
  | true => exact fi _ _ ((zio (cl a) (cl b)).mp e)
  | false =>
    have := (PySem.W.toks_eqv _ _ (al a b)).2 e [.inl 0] [.inl 1]
    rw [h, PySem.W.lex_pre, PySem.W.lex_one, PyProof.Rows.lex_irrefl] at this
    exact absurd this (by decide)
theorem zrb (a b : α) : PySem.W.dataLe false py (f a) (f b) = !PyProof.Rows.lexLt itemOrd (PySem.W.keyToks (py (f b))) (PySem.W.keyToks (py (f a))) := by
  rw [PySem.W.dataLe_eq]
  rfl
theorem zzi (a b c : α) (h1 : PySem.W.dataLe false py (f a) (f b) = true) (h2 : PySem.W.dataLe false py (f b) (f c) = true) : PySem.W.dataLe false py (f a) (f c) = true := by
  rw [zrb, Bool.not_eq_true'] at *
  cases e : PyProof.Rows.lexLt itemOrd (PySem.W.keyToks (py (f c))) (PySem.W.keyToks (py (f a))) with
  | false => rfl
  | true =>
    rcases PyProof.Rows.lex_negTrans _ (PySem.W.keyToks (py (f b))) _ e with h | h
    · rw [h] at h2; cases h2
    · rw [h] at h1; cases h1
theorem zys (a b : α) : (PySem.W.dataLe false py (f a) (f b) || PySem.W.dataLe false py (f b) (f a)) = true := by
  rw [zrb, zrb]
  cases e : PyProof.Rows.lexLt itemOrd (PySem.W.keyToks (py (f b))) (PySem.W.keyToks (py (f a))) with
  | false => rfl
  | true =>
    cases e2 : PyProof.Rows.lexLt itemOrd (PySem.W.keyToks (py (f a))) (PySem.W.keyToks (py (f b))) with
    | false => rfl
    | true =>
      have := PyProof.Rows.lex_trans _ _ _ e e2
      rw [PyProof.Rows.lex_irrefl] at this
      cases this
theorem zsj (cl : ∀ a, zah (f a) = true) (al : ∀ a b, PySem.W.alike (py (f a)) (py (f b)) = true) (fi : ∀ a b, f a = f b → a = b) (a b : α) (h1 : PySem.W.dataLe false py (f a) (f b) = true) (h2 : PySem.W.dataLe false py (f b) (f a) = true) : a = b := by
  rw [zrb, Bool.not_eq_true'] at h1 h2
  exact zua cl al fi ((PyProof.Rows.listOrd itemOrd).total _ _ h2 h1)
theorem znn (xs : List α) : (srtT f xs).Pairwise fun a b => PySem.W.dataLe false py (f a) (f b) = true :=
  List.pairwise_mergeSort (le := fun a b => PySem.W.dataLe false py (f a) (f b)) zzi zys xs
theorem znf (cl : ∀ a, zah (f a) = true) (al : ∀ a b, PySem.W.alike (py (f a)) (py (f b)) = true) (fi : ∀ a b, f a = f b → a = b) {xs ys : List α} (p : xs.Perm ys) : srtT f xs = srtT f ys :=
  zgw (le := fun a b => PySem.W.dataLe false py (f a) (f b)) (zsj cl al fi) ((zbh f xs).trans (p.trans (zbh f ys).symm)) (znn xs) (znn ys)
end
theorem zmg {α : Type} {f : α → D} (al : ∀ a b, PySem.W.alike (py (f a)) (py (f b)) = true) : ∀ xs ys : List α, PySem.W.alikeAll (pys (xs.map f)) (pys (ys.map f)) = true
  | [], _ => by rw [List.map_nil, pys, PySem.W.alikeAll]
  | _ :: _, [] => by rw [List.map_nil, List.map_cons, pys, pys, PySem.W.alikeAll]
  | x :: xs, y :: ys => by
    rw [List.map_cons, List.map_cons, pys, pys, PySem.W.alikeAll, al x y, zmg al xs ys]
    rfl
theorem zvn {α : Type} {f : α → D} (al : ∀ a b, PySem.W.alike (py (f a)) (py (f b)) = true) (xs ys : List α) : PySem.W.alike (py (eT f xs)) (py (eT f ys)) = true := by
  show PySem.W.alike (py (.nd .tup (xs.map f))) (py (.nd .tup (ys.map f))) = true
  rw [py, py, PySem.W.alike]
  exact zmg al xs ys
theorem zn5 {α β : Type} {f : α → β} (h : ∀ {a b}, f a = f b → a = b) : ∀ {xs ys : List α}, xs.map f = ys.map f → xs = ys
  | [], [], _ => rfl
  | [], _ :: _, e => by cases e
  | _ :: _, [], e => by cases e
  | x :: xs, y :: ys, e => by
    simp only [List.map_cons, List.cons.injEq] at e
    rw [h e.1, zn5 h e.2]
theorem zv2 {α : Type} {f : α → D} (h : ∀ {a b}, f a = f b → a = b) {xs ys : List α} (e : eT f xs = eT f ys) : xs = ys := by
  have e2 : D.nd .tup (xs.map f) = .nd .tup (ys.map f) := e
  injection e2 with _ e3
  exact zn5 h e3
abbrev Bl := List Ce
abbrev eC (b : Bl) : D := eT e2 b
theorem alC (a b : Bl) : PySem.W.alike (py (eC a)) (py (eC b)) = true := zvn DL.al2 a b
theorem zej (b : Bl) : zah (eC b) = true := zni (f := e2) zbp b
theorem zhi (b : Bl) : (py (eC b)).depth ≤ 2 := zne (B := 1) (f := e2) zcd b
theorem zqw {a b : Bl} (h : eC a = eC b) : a = b := zv2 (f := e2) (fun h => zon.mp h) h
theorem stC {xs : List Bl} (h : ∀ v ∈ xs, v ≠ []) : PySem.W.Sortable ((xs.map eC).map py) := .inl fun d hd => by
  simp only [List.map_map, List.mem_map] at hd
  obtain ⟨v, hv, rfl⟩ := hd
  cases v with
  | nil => exact absurd rfl (h [] hv)
  | cons x r => exact ⟨_, _, rfl⟩
theorem zky {a b : Bl} (p : a.Perm b) : srtT e2 a = srtT e2 b := znf zbp DL.al2 (fun _ _ h => zon.mp h) p
/-- the blocks, each sorted, all sorted -/
def blkS (L : List Bl) : List Bl := srtT eC (L.map (srtT e2))
theorem zt5 {cells : Bl} {L L' : List Bl} (P : zb4 cells L) (P' : zb4 cells L') : blkS L = blkS L' := by
  refine znf zej alC (fun _ _ h => zqw h) ?_
  have key : ∀ {A A' : List Bl}, zb4 cells A → zb4 cells A' → ∀ b, b ∈ A.map (srtT e2) → b ∈ A'.map (srtT e2) := fun {A A'} p p' b hb => by
    obtain ⟨c, hc, rfl⟩ := List.mem_map.mp hb
    obtain ⟨c', hc', q⟩ := p.same p' hc
    exact List.mem_map.mpr ⟨c', hc', (zky q).symm⟩
  have nd : ∀ {A : List Bl}, zb4 cells A → (A.map (srtT e2)).Nodup := fun {A} p => by
    refine List.pairwise_map.mpr (p.nodup.imp_of_mem fun {a b} ha hb n e => n ?_)
    obtain ⟨x, hx⟩ := List.exists_mem_of_ne_nil _ (p.ne a ha)
    have hxb : x ∈ b := (zbh e2 b).mem_iff.mp (by rw [← e]; exact (zbh e2 a).mem_iff.mpr hx)
    apply Classical.byContradiction
    intro ne
    exact p.far ha hb ne x hx x hxb (ze0 x)
  exact zhj (nd P) (nd P') fun b => ⟨key P P' b, key P' P b⟩
end M
namespace M
open PySem PySem.Spec PyProof.Rows L2 DL
def rowN (c : Ce) (r : Int) : Bl := (([-1, 0, 1] : List Int).filter fun d => decide ((r, d) ≠ (0, 0))).map fun d => (c.1 + r, c.2 + d)
/-- the eight beside a cell -/
def nxtL (c : Ce) : Bl := ([-1, 0, 1] : List Int).flatMap (rowN c)
theorem zi9 {c z : Ce} : z ∈ nxtL c ↔ tch c z ∧ z ≠ c := by
  obtain ⟨a, b⟩ := c
  obtain ⟨x, y⟩ := z
  have e : nxtL (a, b) = [(a + -1, b + -1), (a + -1, b + 0), (a + -1, b + 1), (a + 0, b + -1), (a + 0, b + 1), (a + 1, b + -1), (a + 1, b + 0), (a + 1, b + 1)] := rfl
  rw [e]
  unfold tch
  simp only [List.mem_cons, List.not_mem_nil, or_false, Prod.mk.injEq, ne_eq]
  constructor
  · intro h
    omega
  · intro h
    omega
theorem zh5 (c : Ce) : (nxtL c).length = 8 := rfl
/-- a block b grown from c, w still to be walked, Lf not taken; S: b and Lf -/
structure BlI (S : Bl) (c : Ce) (b w Lf : Bl) : Prop where
  nd : (b ++ Lf).Nodup
  mem : ∀ x, x ∈ S ↔ x ∈ b ∨ x ∈ Lf
  way : ∀ y ∈ b, Way2 b c y
  cb : c ∈ b
  wb : ∀ y ∈ w, y ∈ b
  far : ∀ y ∈ b, y ∉ w → ∀ z ∈ Lf, ¬ tch y z
/-- .. within the walk beside y, ns done -/
structure BlF (S : Bl) (c y : Ce) (ns b w Lf : Bl) : Prop where
  nd : (b ++ Lf).Nodup
  mem : ∀ x, x ∈ S ↔ x ∈ b ∨ x ∈ Lf
  way : ∀ y ∈ b, Way2 b c y
  cb : c ∈ b
  wb : ∀ y ∈ w, y ∈ b
  yb : y ∈ b
  far : ∀ u ∈ b, u ∉ w → u ≠ y → ∀ z ∈ Lf, ¬ tch u z
  dn : ∀ z ∈ ns, z ∉ Lf
section
variable {S b w Lf ns : Bl} {c y z : Ce}
theorem BlI.start (h : BlI S c b (w ++ [y]) Lf) : BlF S c y [] b w Lf where
  nd := h.nd
  mem := h.mem
  way := h.way
  cb := h.cb
  wb := fun u hu => h.wb u (List.mem_append.mpr (.inl hu))
  yb := h.wb y (List.mem_append.mpr (.inr (List.mem_singleton.mpr rfl)))
  far := fun u hu n1 n2 => h.far u hu fun hm => by
    rcases List.mem_append.mp hm with h | h
    · exact n1 h
    · exact n2 (List.mem_singleton.mp h)
  dn := fun z hz => by cases hz
theorem BlF.skip (h : BlF S c y ns b w Lf) (hz : z ∉ Lf) : BlF S c y (ns ++ [z]) b w Lf :=
  ⟨h.nd, h.mem, h.way, h.cb, h.wb, h.yb, h.far, fun u hu => by
    rcases List.mem_append.mp hu with hu | hu
    · exact h.dn u hu
    · rw [List.mem_singleton.mp hu]; exact hz⟩
theorem BlF.take (h : BlF S c y ns b w Lf) (hz : z ∈ Lf) (t : tch y z) : BlF S c y (ns ++ [z]) (b ++ [z]) (w ++ [z]) (Lf.filter fun u => decide (u ≠ z)) := by
  have hd := List.nodup_append.mp h.nd
  have mf : ∀ u, u ∈ Lf.filter (fun u => decide (u ≠ z)) ↔ u ∈ Lf ∧ u ≠ z := fun u => by rw [List.mem_filter, decide_eq_true_eq]
  have zb : z ∉ b := fun hb => hd.2.2 z hb z hz rfl
  refine ⟨?_, fun x => ?_, fun u hu => ?_, List.mem_append.mpr (.inl h.cb), fun u hu => ?_, List.mem_append.mpr (.inl h.yb), fun u hu n1 n2 v hv => ?_, fun u hu hl => ?_⟩
  · refine List.nodup_append.mpr ⟨List.nodup_append.mpr ⟨hd.1, List.nodup_cons.mpr ⟨List.not_mem_nil, List.nodup_nil⟩, fun u hu v hv e => ?_⟩, hd.2.1.sublist List.filter_sublist, fun u hu v hv e => ?_⟩
    · rw [List.mem_singleton.mp hv] at e
      rw [e] at hu
      exact zb hu
    · subst e
      obtain ⟨h1, h2⟩ := (mf u).mp hv
      rcases List.mem_append.mp hu with hu | hu
      · exact hd.2.2 u hu u h1 rfl
      · exact h2 (List.mem_singleton.mp hu)
  · rw [h.mem x, List.mem_append, List.mem_singleton, mf]
    constructor
    · rintro (g | g)
      · exact .inl (.inl g)
      · by_cases e : x = z
        · exact .inl (.inr e)
        · exact .inr ⟨g, e⟩
    · rintro ((g | g) | g)
      · exact .inl g
      · rw [g]; exact .inr hz
      · exact .inr g.1
  · have mono : ∀ {p q : Ce}, Way2 b p q → Way2 (b ++ [z]) p q := fun w => w.mono fun x hx => List.mem_append.mpr (.inl hx)
    rcases List.mem_append.mp hu with hu | hu
    · exact mono (h.way u hu)
    · rw [List.mem_singleton.mp hu]
      exact .on (mono (h.way y h.yb)) (List.mem_append.mpr (.inr (List.mem_singleton.mpr rfl))) t
  · rcases List.mem_append.mp hu with hu | hu
    · exact List.mem_append.mpr (.inl (h.wb u hu))
    · exact List.mem_append.mpr (.inr hu)
  · rcases List.mem_append.mp hu with hu | hu
    · exact h.far u hu (fun g => n1 (List.mem_append.mpr (.inl g))) n2 v ((mf v).mp hv).1
    · exact absurd (List.mem_append.mpr (.inr hu)) n1
  · obtain ⟨h1, h2⟩ := (mf u).mp hl
    rcases List.mem_append.mp hu with hu | hu
    · exact h.dn u hu h1
    · exact h2 (List.mem_singleton.mp hu)
theorem BlF.done (h : BlF S c y (nxtL y) b w Lf) : BlI S c b w Lf :=
  ⟨h.nd, h.mem, h.way, h.cb, h.wb, fun u hu n1 v hv t => by
    by_cases e : u = y
    · subst e
      have hd := List.nodup_append.mp h.nd
      have ne : v ≠ u := fun e => hd.2.2 u hu v hv e.symm
      exact h.dn v (zi9.mpr ⟨t, ne⟩) hv
    · exact h.far u hu n1 e v hv t⟩
theorem zws (nd : Lf.Nodup) (hc : c ∈ Lf) : BlI Lf c [c] [c] (Lf.filter fun u => decide (u ≠ c)) := by
  have mf : ∀ u, u ∈ Lf.filter (fun u => decide (u ≠ c)) ↔ u ∈ Lf ∧ u ≠ c := fun u => by rw [List.mem_filter, decide_eq_true_eq]
  refine ⟨List.nodup_cons.mpr ⟨fun h => ((mf c).mp h).2 rfl, nd.sublist List.filter_sublist⟩, fun x => ?_, fun u hu => ?_, List.mem_singleton.mpr rfl, fun u hu => hu, fun u hu n => absurd hu n⟩
  · rw [List.mem_singleton, mf]
    constructor
    · intro h
      by_cases e : x = c
      · exact .inl e
      · exact .inr ⟨h, e⟩
    · rintro (e | h)
      · rw [e]; exact hc
      · exact h.1
  · rw [List.mem_singleton.mp hu]
    exact .here (List.mem_singleton.mpr rfl)
end
/-- blocks found, the rest left -/
structure OuI (cells : Bl) (F : List Bl) (Lf : Bl) : Prop where
  nd : Lf.Nodup
  sub : ∀ x ∈ Lf, x ∈ cells
  part : zb4 (cells.filter fun x => decide (x ∉ Lf)) F
  far : ∀ b ∈ F, ∀ x ∈ b, ∀ z ∈ Lf, ¬ tch x z
theorem OuI.step {cells : Bl} {F : List Bl} {Lf Lf' b : Bl} {c : Ce} (h : OuI cells F Lf) (hc : c ∈ Lf) (g : BlI Lf c b [] Lf') : OuI cells (F ++ [b]) Lf' := by
  have hd := List.nodup_append.mp g.nd
  have bl : ∀ x ∈ b, x ∈ Lf := fun x hx => (g.mem x).mpr (.inl hx)
  have ll : ∀ x ∈ Lf', x ∈ Lf := fun x hx => (g.mem x).mpr (.inr hx)
  have cb := g.cb
  refine ⟨hd.2.1, fun x hx => h.sub x (ll x hx), ⟨fun x => ?_, fun d hd2 => ?_, fun d hd2 => ?_, ?_, fun d hd2 => ?_⟩, fun d hd2 x hx z hz => ?_⟩
  · rw [List.mem_filter, decide_eq_true_eq]
    constructor
    · rintro ⟨h1, h2⟩
      by_cases hl : x ∈ Lf
      · rcases (g.mem x).mp hl with h3 | h3
        · exact ⟨b, List.mem_append.mpr (.inr (List.mem_singleton.mpr rfl)), h3⟩
        · exact absurd h3 h2
      · obtain ⟨d, hd3, hx⟩ := (h.part.cov x).mp (List.mem_filter.mpr ⟨h1, decide_eq_true hl⟩)
        exact ⟨d, List.mem_append.mpr (.inl hd3), hx⟩
    · rintro ⟨d, hd3, hx⟩
      rcases List.mem_append.mp hd3 with hd3 | hd3
      · have := List.mem_filter.mp ((h.part.cov x).mpr ⟨d, hd3, hx⟩)
        rw [decide_eq_true_eq] at this
        exact ⟨this.1, fun hl => this.2 (ll x hl)⟩
      · rw [List.mem_singleton.mp hd3] at hx
        exact ⟨h.sub x (bl x hx), fun hl => hd.2.2 x hx x hl rfl⟩
  · rcases List.mem_append.mp hd2 with hd2 | hd2
    · exact h.part.ne d hd2
    · rw [List.mem_singleton.mp hd2]
      intro e
      rw [e] at cb
      cases cb
  · rcases List.mem_append.mp hd2 with hd2 | hd2
    · exact h.part.hang d hd2
    · rw [List.mem_singleton.mp hd2]
      exact fun x hx y hy => (g.way x hx).symm.trans (g.way y hy)
  · refine List.pairwise_append.mpr ⟨h.part.apart, List.pairwise_singleton _ _, fun d hd2 e he x hx y hy => ?_⟩
    rw [List.mem_singleton.mp he] at hy
    exact h.far d hd2 x hx y (bl y hy)
  · rcases List.mem_append.mp hd2 with hd2 | hd2
    · exact h.part.nd d hd2
    · rw [List.mem_singleton.mp hd2]
      exact hd.1
  · rcases List.mem_append.mp hd2 with hd2 | hd2
    · exact h.far d hd2 x hx z (ll z hz)
    · rw [List.mem_singleton.mp hd2] at hx
      exact g.far x hx List.not_mem_nil z hz
end M
namespace M
open PySem PySem.Spec PyProof.Rows L2 DL
def touB (r o : Bl) : Bool := r.any fun x => o.any fun y => decide (tch x y)
theorem zmz {r o : Bl} : touB r o = true ↔ ∃ x ∈ r, ∃ y ∈ o, tch x y := by
  unfold touB
  rw [List.any_eq_true]
  constructor
  · rintro ⟨x, hx, h⟩
    obtain ⟨y, hy, t⟩ := List.any_eq_true.mp h
    exact ⟨x, hx, y, hy, of_decide_eq_true t⟩
  · rintro ⟨x, hx, y, hy, t⟩
    exact ⟨x, hx, List.any_eq_true.mpr ⟨y, hy, decide_eq_true t⟩⟩
structure RowP (r : Bl) : Prop where
  ne : r ≠ []
  hang : ∀ x ∈ r, ∀ y ∈ r, Way2 r x y
  nd : r.Nodup
theorem zrv {cells : Bl} {L : List Bl} (P : zb4 cells L) (f : Bl → Bool) : (L.filter f).flatten.Nodup := by
  refine List.pairwise_flatten.mpr ⟨fun b hb => P.nd b (List.mem_filter.mp hb).1, (P.apart.sublist List.filter_sublist).imp fun {b b'} h x hx y hy e => ?_⟩
  exact h x hx y hy (by rw [e]; exact ze0 y)
theorem ztf {S r : Bl} {late : List Bl} (P : zb4 S late) (hr : RowP r) (dis : ∀ x ∈ r, x ∉ S) :
    zb4 (S ++ r) (late.filter (fun o => !touB r o) ++ [r ++ (late.filter (touB r)).flatten]) := by
  have mj : ∀ x, x ∈ r ++ (late.filter (touB r)).flatten ↔ x ∈ r ∨ ∃ o ∈ late, touB r o = true ∧ x ∈ o := fun x => by
    rw [List.mem_append, List.mem_flatten]
    constructor
    · rintro (h | ⟨o, ho, hx⟩)
      · exact .inl h
      · obtain ⟨h1, h2⟩ := List.mem_filter.mp ho
        exact .inr ⟨o, h1, h2, hx⟩
    · rintro (h | ⟨o, h1, h2, hx⟩)
      · exact .inl h
      · exact .inr ⟨o, List.mem_filter.mpr ⟨h1, h2⟩, hx⟩
  obtain ⟨r0, hr0⟩ := List.exists_mem_of_ne_nil _ hr.ne
  have mono : ∀ {T : Bl} {p q : Ce}, (∀ x ∈ T, x ∈ r ++ (late.filter (touB r)).flatten) → Way2 T p q → Way2 (r ++ (late.filter (touB r)).flatten) p q := fun h w => w.mono h
  have root : ∀ x ∈ r ++ (late.filter (touB r)).flatten, Way2 (r ++ (late.filter (touB r)).flatten) r0 x := fun x hx => by
    rcases (mj x).mp hx with h | ⟨o, h1, h2, h3⟩
    · exact mono (fun y hy => (mj y).mpr (.inl hy)) (hr.hang r0 hr0 x h)
    · obtain ⟨u, hu, v, hv, t⟩ := zmz.mp h2
      have a : Way2 (r ++ (late.filter (touB r)).flatten) r0 u := mono (fun y hy => (mj y).mpr (.inl hy)) (hr.hang r0 hr0 u hu)
      have b : Way2 (r ++ (late.filter (touB r)).flatten) r0 v := .on a ((mj v).mpr (.inr ⟨o, h1, h2, hv⟩)) t
      exact b.trans (mono (fun y hy => (mj y).mpr (.inr ⟨o, h1, h2, hy⟩)) (P.hang o h1 v hv x h3))
  have oth : ∀ o, o ∈ late.filter (fun o => !touB r o) ↔ o ∈ late ∧ touB r o = false := fun o => by
    rw [List.mem_filter, Bool.not_eq_true']
  refine ⟨fun x => ?_, fun b hb => ?_, fun b hb => ?_, ?_, fun b hb => ?_⟩
  · rw [List.mem_append]
    constructor
    · rintro (h | h)
      · obtain ⟨o, ho, hx⟩ := (P.cov x).mp h
        cases e : touB r o with
        | true => exact ⟨_, List.mem_append.mpr (.inr (List.mem_singleton.mpr rfl)), (mj x).mpr (.inr ⟨o, ho, e, hx⟩)⟩
        | false => exact ⟨o, List.mem_append.mpr (.inl ((oth o).mpr ⟨ho, e⟩)), hx⟩
      · exact ⟨_, List.mem_append.mpr (.inr (List.mem_singleton.mpr rfl)), (mj x).mpr (.inl h)⟩
    · rintro ⟨b, hb, hx⟩
      rcases List.mem_append.mp hb with hb | hb
      · exact .inl ((P.cov x).mpr ⟨b, ((oth b).mp hb).1, hx⟩)
      · rw [List.mem_singleton.mp hb] at hx
        rcases (mj x).mp hx with h | ⟨o, h1, _, h3⟩
        · exact .inr h
        · exact .inl ((P.cov x).mpr ⟨o, h1, h3⟩)
  · rcases List.mem_append.mp hb with hb | hb
    · exact P.ne b ((oth b).mp hb).1
    · rw [List.mem_singleton.mp hb]
      intro e
      have : r0 ∈ r ++ (late.filter (touB r)).flatten := (mj r0).mpr (.inl hr0)
      rw [e] at this
      cases this
  · rcases List.mem_append.mp hb with hb | hb
    · exact P.hang b ((oth b).mp hb).1
    · rw [List.mem_singleton.mp hb]
      exact fun x hx y hy => (root x hx).symm.trans (root y hy)
  · refine List.pairwise_append.mpr ⟨P.apart.sublist List.filter_sublist, List.pairwise_singleton _ _, fun o ho e he x hx y hy t => ?_⟩
    obtain ⟨h1, h2⟩ := (oth o).mp ho
    rw [List.mem_singleton.mp he] at hy
    rcases (mj y).mp hy with h | ⟨o', g1, g2, g3⟩
    · have := zmz.mpr ⟨y, h, x, hx, ze2 t⟩
      rw [h2] at this
      cases this
    · refine P.far h1 g1 (fun e => ?_) x hx y g3 t
      rw [e, g2] at h2
      cases h2
  · rcases List.mem_append.mp hb with hb | hb
    · exact P.nd b ((oth b).mp hb).1
    · rw [List.mem_singleton.mp hb]
      refine List.nodup_append.mpr ⟨hr.nd, zrv P _, fun x hx y hy e => ?_⟩
      · obtain ⟨o, ho, hy2⟩ := List.mem_flatten.mp hy
        exact dis x hx ((P.cov x).mpr ⟨o, (List.mem_filter.mp ho).1, by rw [e]; exact hy2⟩)
/-- one turn: rows, walked so far -/
theorem zqs : zb4 [] [] := ⟨fun x => ⟨fun h => (by cases h), fun ⟨_, h, _⟩ => (by cases h)⟩, fun b h => (by cases h), fun b h => (by cases h), List.Pairwise.nil, fun b h => (by cases h)⟩
theorem zhh {S T : Bl} {L : List Bl} (h : ∀ x, x ∈ S ↔ x ∈ T) (P : zb4 S L) : zb4 T L := ⟨fun x => (h x).symm.trans (P.cov x), P.ne, P.hang, P.apart, P.nd⟩
theorem zwr (c : Ce) : RowP [c] := ⟨fun h => (by cases h), fun x hx y hy => by rw [List.mem_singleton.mp hx, List.mem_singleton.mp hy]; exact .here (List.mem_singleton.mpr rfl), List.nodup_cons.mpr ⟨List.not_mem_nil, List.nodup_nil⟩⟩
end M
section
open PySem PySem.Spec PyProof.Rows L2 DL
local macro_rules | `(tactic| simp_arith only [$xs,*]) => `(tactic| simp only [$xs,*, dSeq, dIfS, zbl, dOp, ze, dC, dRet, zgo, zf, dNil, dTup, zem, dAsg, zf2, zj, zf0, dM, dM0, dIf, dAnd, dOr, dNot, zkx, dOrV, zm0, zi0, dFz, znj, zn6, ziv, zmy, dCB, zfd, za2, zfa, znc, dNeg, dAug, zk3, dFrz, dPar, zgk, zod, zil, dYes, zc3, i2, d1, d2, d3, zbj, List.map_cons, List.map_nil, List.length_cons, List.length_nil, List.cons_append, List.nil_append, List.append_nil, List.getElem?_cons_zero, List.getElem?_cons_succ, List.getElem?_nil, List.replicate, List.set_cons_succ, List.set_cons_zero, Nat.reduceAdd, Nat.reduceSub, Nat.reduceLeDiff, zgv, zgi, zix, zir, zih, zib, ze1, zd5, true_and, and_true, Bool.not_eq_true, Bool.not_true, Bool.not_false, if_true, if_false, Bool.false_eq_true, ite_true, ite_false, reduceIte, reduceCtorEq, decide_eq_true_eq, decide_eq_false_iff_not, Option.isSome_some, Option.isSome_none, Bool.true_bne, Bool.false_bne])
namespace M
open PySem PySem.Spec PyProof.Rows L2 DL
abbrev rs3 : List Int := [-1, 0, 1]
theorem zya {a b : Ce} {G : DHp} {Q : DVK} (q : Q (.bl (decide (a ≠ b))) G) : dNe (e2 a) (e2 b) G Q :=
  zor (zbp a) (zbp b) (Nat.le_trans (zcd a) (by decide)) (Nat.le_trans (zcd b) (by decide)) (decide (a ≠ b)) (by
    rw [decide_eq_true_eq]
    exact ⟨fun h e => h (zon.mp e), fun h e => h (zon.mpr e)⟩) q
def zac : DRn := fun ds G Q => ∃ c : Ce, ds = [e2 c] ∧ Q (eL e2 (nxtL c)) G
abbrev zf7 : List Str := ["cell", "x", "y", "right", "down"]
def zje : DTS :=
    (dSeq (dAsg (ze 0) (zfd (za2 (zj 1) (za2 (zj 2) zfa)) 2))
    (dRet (dFz (dLc2 (zx (dTup (zf (dNeg (dC (.int 1))) (zf (dC (.int 0)) (zf (dC (.int 1)) dNil))))) (zj 3) dYes (zx (dTup (zf (dNeg (dC (.int 1))) (zf (dC (.int 0)) (zf (dC (.int 1)) dNil))))) (zj 4) (zbl (dOp dNe (dTup (zf (ze 3) (zf (ze 4) dNil))) (dTup (zf (dC (.int 0)) (zf (dC (.int 0)) dNil))))) (dTup (zf (dOp dAdd (ze 1) (ze 3)) (zf (dOp dAdd (ze 2) (ze 4)) dNil))) [3, 4] [4]))))
theorem zoo : ∀ ds G Q, zac ds G Q → ds.length = 1 := fun ds G Q ⟨_, e, _⟩ => by rw [e]; rfl
theorem zw0 {α β : Type} {xs : List α} {g : α → List β} {i : Nat} {x : α} (h : xs[i]? = some x) : (xs.take (i + 1)).flatMap g = (xs.take i).flatMap g ++ g x := by
  rw [zbt h, List.flatMap_append, List.flatMap_cons, List.flatMap_nil, List.append_nil]
theorem zpu : ∀ ds G Q, zac ds G Q → zje { nx := fun _ G' => Q .non G', rt := Q } (zbj zf7 ds) G := fun ds G Q h => by
  obtain ⟨c, rfl, q⟩ := h
  simp_arith only [zje, zf7, e2, dLc2, zx]
  intro p hp
  refine ⟨fun i acc G' => acc = ((rs3.take i).flatMap (rowN c)).map e2 ∧ G' = up G p (.lst acc), ⟨rfl, rfl⟩, fun i acc G' ⟨h1, h2⟩ => ⟨trivial, by rw [h2]; exact zg⟩, fun i d acc G' hd ⟨e1, h2⟩ => ?_, fun acc G' ⟨e1, h2⟩ => ?_⟩
  · obtain ⟨r, hr, rfl⟩ := zcn (f := D.int) (xs := rs3) hd
    simp_arith only [true_and]
    refine ⟨fun j acc G' => acc = ((rs3.take i).flatMap (rowN c) ++ ((rs3.take j).filter fun d => decide ((r, d) ≠ (0, 0))).map fun d => (c.1 + r, c.2 + d)).map e2 ∧ G' = up G p (.lst acc), ⟨by rw [e1]; simp, h2⟩, fun j acc G' ⟨_, h⟩ => ⟨trivial, by rw [h]; exact zg⟩, fun j d acc G' hd ⟨f1, f2⟩ => ?_, fun acc G' ⟨f1, f2⟩ => ⟨?_, f2⟩⟩
    · obtain ⟨t, ht, rfl⟩ := zcn (f := D.int) (xs := rs3) hd
      have hj := (List.getElem?_eq_some_iff.mp ht).1
      have hi := (List.getElem?_eq_some_iff.mp hr).1
      have hlen : acc.length < sizeLine := by
        rw [f1, List.length_map, List.length_append, List.length_map]
        refine zax ?_
        have h1 : ((rs3.take i).flatMap (rowN c)).length ≤ (rs3.take i).length * 3 := zkg (B := 3) fun x _ => by
          unfold rowN
          rw [List.length_map]
          exact List.length_filter_le _ _
        have h2 := List.length_filter_le (fun d => decide ((r, d) ≠ (0, 0))) (rs3.take j)
        rw [List.length_take] at h1 h2
        have h3 : rs3.length = 3 := rfl
        omega
      refine zya (a := (r, t)) (b := (0, 0)) ?_
      subst f2
      by_cases e : (r, t) = (0, 0)
      · rw [decide_eq_false (fun h => h e)]
        simp_arith only [true_and]
        rw [f1, zbt ht, List.filter_append, List.filter_cons_of_neg (by rw [decide_eq_true_eq]; exact fun h => h e), List.filter_nil, List.append_nil]
      · rw [decide_eq_true e]
        simp_arith only [true_and]
        refine ⟨hlen, zg, ?_, by rw [zfl]⟩
        rw [f1, zbt ht, List.filter_append, List.filter_cons_of_pos (by rw [decide_eq_true_eq]; exact e), List.filter_nil, List.map_append (l₁ := List.filter _ _), ← List.append_assoc, List.map_append (l₂ := List.map _ [t])]
        rfl
    · rw [f1, zw0 hr]
      rfl
  · subst h2 e1
    simp_arith only [zg, zaz hp, DO.tree]
    exact q
end M
namespace M
open PySem PySem.Spec PyProof.Rows L2 DL
theorem zng {α β : Type} [DecidableEq α] {kvs : List (α × β)} {k x : α} {v : β} : x ∈ (aput kvs k v).map (·.1) ↔ x ∈ kvs.map (·.1) ∨ x = k := by
  rw [zpf]
  cases e : (aget kvs k).isSome with
  | true =>
    rw [if_pos rfl]
    have := (zeg kvs k).mp e
    exact ⟨.inl, fun h => h.elim id fun h => by rw [h]; exact this⟩
  | false =>
    rw [if_neg (by simp), List.mem_append, List.mem_singleton]
theorem zjd {G : DHp} {p : Addr} {kvs : List (NestedKey × D)} (h : G p = some (.dN kvs)) : ∀ xs, G p ≠ some (.lst xs) := fun xs e => by rw [h] at e; cases e
theorem ziy {α : Type} {eα : α → D} {f : α → Ce} {sl : List α} {G : DHp} {Q : DVK} {wi : DTI} {g : DTG} {te : DTE} {own : List Nat} {η : DSt} (hl : sl.length ≤ 1000000)
    (hw : ∀ R, R (sl.map eα) always G → wi η G R) (hb : ∀ s ∈ sl, ∀ (G1 : DHp) (A : DVK), A (e2 (f s)) G1 → g (eα s) (zc3 η own) G1 fun η2 G2 => te η2 G2 A)
    (q : ∀ p, G p = none → ∀ kvs : List (Ce × Bool), (kvs.map (·.1)).Nodup → (∀ x, x ∈ kvs.map (·.1) ↔ x ∈ sl.map f) → kvs.length ≤ sl.length → Q (.ref p) (up G p (.dN (enc DL.k2 .bl kvs)))) : dDc (.dN []) wi g dYes te (dC (.bl true)) own η G Q := by
  unfold dDc
  refine hw _ ?_
  intro p hp
  refine ⟨fun i G' => ∃ kvs : List (Ce × Bool), G' = up G p (.dN (enc DL.k2 .bl kvs)) ∧ kvs.length ≤ i ∧ (kvs.map (·.1)).Nodup ∧ (∀ x, x ∈ kvs.map (·.1) ↔ x ∈ (sl.take i).map f), ⟨[], rfl, Nat.le_refl _, List.nodup_nil, by simp⟩, ?_, ?_, ?_⟩
  · rintro i G' ⟨kvs, rfl, _⟩
    exact ⟨trivial, zjd zg⟩
  · rintro i d G' hd ⟨kvs, rfl, hk, nd, hm⟩
    obtain ⟨s, hs, rfl⟩ := zcn hd
    have hi := (List.getElem?_eq_some_iff.mp hs).1
    have := hb s (List.mem_of_getElem? hs) (up G p (.dN (enc DL.k2 .bl kvs))) (fun y G4 => (∀ xs, G4 p ≠ some (.lst xs)) ∧ dSet (.ref p) y (.bl true) G4 fun G' => ∃ kvs : List (Ce × Bool), G' = up G p (.dN (enc DL.k2 .bl kvs)) ∧ kvs.length ≤ i + 1 ∧ (kvs.map (·.1)).Nodup ∧ (∀ x, x ∈ kvs.map (·.1) ↔ x ∈ (sl.take (i + 1)).map f)) ?_
    · simpa only [dYes, dC, if_true] using this
    · refine ⟨zjd zg, zqm (f := D.bl) (b := true) tk2 zg (zax (by omega)) ?_⟩
      rw [zfl]
      have hlp := zj7 kvs (f s) true
      refine ⟨_, rfl, by omega, zjl _ _ _ nd, fun x => ?_⟩
      rw [zng, hm, zbt hs, List.map_append, List.mem_append, List.map_singleton, List.mem_singleton]
  · rintro G' ⟨kvs, rfl, hk, nd, hm⟩
    rw [List.length_map, List.take_length] at hm
    rw [List.length_map] at hk
    exact q p hp kvs nd hm hk
/-- what is left behind a pop -/
def drK (kvs : List (Ce × Bool)) (c : Ce) : List (Ce × Bool) := kvs.filter fun p => decide (p.1 ≠ c)
theorem zke (kvs : List (Ce × Bool)) (c : Ce) : (drK kvs c).map (·.1) = (kvs.map (·.1)).filter fun u => decide (u ≠ c) := by
  unfold drK
  rw [List.filter_map]
  rfl
theorem zkf {kvs : List (Ce × Bool)} {c : Ce} {l : Addr} {G : DHp} {Q : DVK} (e : G l = some (.dN (enc DL.k2 .bl kvs))) (hc : c ∈ kvs.map (·.1)) (hl : kvs.length ≤ 1000000) (q : ∀ b, Q (.bl b) (up G l (.dN (enc DL.k2 .bl (drK kvs c))))) : tyD "dict" (.ref l) G ∧ zmp [.ref l, e2 c] G Q := by
  refine ⟨by simp only [tyD, e], ?_⟩
  unfold zmp d2
  dsimp only
  rw [e]
  have hk : D.key (e2 c) = some (DL.k2 c) := tk2.key c
  show match D.key (e2 c) with
    | some k => (k.depth ≤ 8 ∧ (enc DL.k2 D.bl kvs).length ≤ sizeLine) ∧ (match dval (enc DL.k2 D.bl kvs) k with
          | some d => Q d (up G l (.dN (zi4 (enc DL.k2 D.bl kvs) k)))
          | none => False)
    | none => False
  rw [hk]
  obtain ⟨b, hb⟩ := Option.isSome_iff_exists.mp ((zeg kvs c).mpr hc)
  have hv : dval (enc DL.k2 D.bl kvs) (DL.k2 c) = some (.bl b) := by rw [znr tk2.inj, hb]; rfl
  have hd : zi4 (enc DL.k2 D.bl kvs) (DL.k2 c) = enc DL.k2 D.bl (drK kvs c) := by
    unfold zi4 enc drK
    rw [List.filter_map]
    congr 1
    refine List.filter_congr fun p hp => ?_
    show decide (DL.k2 p.1 ≠ DL.k2 c) = decide (p.1 ≠ c)
    exact decide_eq_decide.mpr ⟨fun h e => h (by rw [e]), fun h e => h (tk2.inj.mp e)⟩
  dsimp only
  rw [hv, hd]
  exact ⟨⟨tk2.dep c, by unfold enc; rw [List.length_map]; exact zf1 (by omega)⟩, q b⟩
def za3 : DRn := fun ds G Q => ∃ cells : Bl, ds = [eL e2 cells] ∧ cells.length ≤ 1000 ∧ ∀ L, zb4 cells L → Q (eL eC (blkS L)) G
abbrev zlf : List Str := ["cells", "left", "found", "cell", "blob", "waiting", "other"]
def zqh : DTS :=
    (dSeq (dPar 1 2 (zf (dDc (.dN []) (zx (ze 0)) (zj 3) dYes (ze 3) (dC (.bl true)) [3]) (zf (zf2 dNil) dNil)))
    (dSeq (dFor (zx (dFz (dCB zd3 (zf (ze 0) dNil)))) (zj 3)
    (dIfS (zbl (dOp (dIn false) (ze 3) (ze 1)))
    (dSeq (zf0 (dM "dict" zmp (ze 1) (zf (ze 3) dNil)))
    (dSeq (dPar 4 5 (zf (zf2 (zf (ze 3) dNil)) (zf (zf2 (zf (ze 3) dNil)) dNil)))
    (dSeq (ztm (zbl (dOp dNe (ze 5) (zgo dNil)))
    (dFor (zx (dCB zac (zf (dM0 "list" dPop (ze 5)) dNil))) (zj 6)
    (dIfS (zbl (dOp (dIn false) (ze 6) (ze 1)))
    (dSeq (zf0 (dM "dict" zmp (ze 1) (zf (ze 6) dNil)))
    (dSeq (zf0 (dM "list" zhe (ze 4) (zf (ze 6) dNil)))
    (zf0 (dM "list" zhe (ze 5) (zf (ze 6) dNil)))))
    zem)))
    (dFrz 4 (dFrz 5 (zf0 (dM "list" zhe (ze 2) (zf (dCB zk7 (zf (dFz (dCB zd3 (zf (ze 4) dNil))) dNil)) dNil))))))))
    zem))
    (dFrz 2 (dFrz 1 (dRet (dFz (dCB zd3 (zf (ze 2) dNil))))))))
theorem zsu : ∀ ds G Q, za3 ds G Q → ds.length = 1 := fun ds G Q ⟨_, e, _⟩ => by rw [e]; rfl
/-- the heap of the walk -/
def bhp (G : DHp) (l f : Addr) (kvs : List (Ce × Bool)) (F : List Bl) : DHp := up (up G l (.dN (enc DL.k2 .bl kvs))) f (.lst (F.map fun b => eC (srtT e2 b)))
/-- .. with a block and what waits -/
def bh4 (G : DHp) (l f bp wp : Addr) (kvs : List (Ce × Bool)) (F : List Bl) (b w : Bl) : DHp := up (up (bhp G l f kvs F) bp (.lst (b.map e2))) wp (.lst (w.map e2))
structure D4 (l f bp wp : Addr) : Prop where
  lf : l ≠ f
  lb : l ≠ bp
  lw : l ≠ wp
  fb : f ≠ bp
  fw : f ≠ wp
  bw : bp ≠ wp
section
variable {G : DHp} {l f bp wp : Addr} {kvs kvs' : List (Ce × Bool)} {F : List Bl} {b w b' w' : Bl}
theorem bh_l (h : l ≠ f) : bhp G l f kvs F l = some (.dN (enc DL.k2 .bl kvs)) := by unfold bhp; rw [zdy h, zg]
theorem bh_f : bhp G l f kvs F f = some (.lst (F.map fun b => eC (srtT e2 b))) := by unfold bhp; rw [zg]
theorem zy0 (h : l ≠ f) : up (bhp G l f kvs F) l (.dN (enc DL.k2 .bl kvs')) = bhp G l f kvs' F := by unfold bhp; rw [zgr (Ne.symm h), zfl]
theorem b4_l (d : D4 l f bp wp) : bh4 G l f bp wp kvs F b w l = some (.dN (enc DL.k2 .bl kvs)) := by unfold bh4; rw [zdy d.lw, zdy d.lb, bh_l d.lf]
theorem b4_b (d : D4 l f bp wp) : bh4 G l f bp wp kvs F b w bp = some (.lst (b.map e2)) := by unfold bh4; rw [zdy d.bw, zg]
theorem b4_w (d : D4 l f bp wp) : bh4 G l f bp wp kvs F b w wp = some (.lst (w.map e2)) := by unfold bh4; rw [zg]
theorem zy5 (d : D4 l f bp wp) : up (bh4 G l f bp wp kvs F b w) l (.dN (enc DL.k2 .bl kvs')) = bh4 G l f bp wp kvs' F b w := by
  unfold bh4
  rw [zgr (Ne.symm d.lw), zgr (Ne.symm d.lb), zy0 d.lf]
theorem zzc (d : D4 l f bp wp) : up (bh4 G l f bp wp kvs F b w) bp (.lst (b'.map e2)) = bh4 G l f bp wp kvs F b' w := by
  unfold bh4
  rw [zgr (Ne.symm d.bw), zfl]
theorem zxz : up (bh4 G l f bp wp kvs F b w) wp (.lst (w'.map e2)) = bh4 G l f bp wp kvs F b w' := by
  unfold bh4
  rw [zfl]
end
theorem zt0 : ∀ ds G Q, za3 ds G Q → zqh { nx := fun _ G' => Q .non G', rt := Q } (zbj zlf ds) G := fun ds G Q h => by
  obtain ⟨cells, rfl, hl, q⟩ := h
  simp_arith only [zqh, zlf]
  refine ziy (eα := e2) (f := id) (sl := cells) (by omega) (fun R r => by simp_arith only [zx, eL]; exact r) (fun x hx G1 A aa => by simp_arith only [true_and]; exact aa) fun l hl0 kvs0 nd0 hm0 hk0 => ?_
  rw [List.map_id] at hm0
  intro f hf0
  have hlf : l ≠ f := fun e => by rw [← e, zg] at hf0; cases hf0
  have hf1 : G f = none := by rwa [zdy (Ne.symm hlf)] at hf0
  have o0 : OuI cells [] (kvs0.map (·.1)) := by
    refine ⟨nd0, fun x hx => (hm0 x).mp hx, zhh (fun x => ?_) zqs, fun b hb => (by cases hb)⟩
    rw [List.mem_filter, decide_eq_true_eq]
    exact ⟨fun h => (by cases h), fun h => absurd ((hm0 x).mpr h.1) h.2⟩
  simp_arith only [dFor, zx]
  refine zb7 (f := e2) (xs := cells) rfl zbp DL.al2 (DL.st2 _) (fun a => Nat.le_trans (zcd a) (by decide)) fun w hw => ?_
  simp_arith only [zg, zaz hw, DO.tree]
  have es : (srtT e2 cells).length = cells.length := (zbh e2 cells).length_eq
  refine ⟨fun i η G' => ∃ kvs F x3 x4 x5 x6, η = [some (eL e2 cells), some (.ref l), some (.ref f), x3, x4, x5, x6] ∧ G' = bhp G l f kvs F ∧ OuI cells F (kvs.map (·.1)) ∧ kvs.length ≤ 1000 ∧ F.length ≤ i ∧ ∀ c ∈ (srtT e2 cells).take i, c ∉ kvs.map (·.1), ⟨kvs0, [], none, none, none, none, rfl, rfl, o0, by omega, Nat.le_refl _, fun c hc => by simp at hc⟩, fun _ _ _ _ => trivial, ?_, ?_⟩
  · rintro i d η G' hd ⟨kvs, F, x3, x4, x5, x6, rfl, rfl, ou, hkl, hF, dn⟩
    obtain ⟨c, hc, rfl⟩ := zcn hd
    have hi := (List.getElem?_eq_some_iff.mp hc).1
    rw [es] at hi
    have hdic : dicN (.ref l) (bhp G l f kvs F) = some (enc DL.k2 D.bl kvs) := by show (match bhp G l f kvs F l with | some (.dN kvs) => some kvs | _ => none) = _; rw [bh_l hlf]
    simp_arith only [true_and]
    refine zmv tk2 (k := DL.k2) (e := e2) (f := D.bl) (kvs := kvs) (neg := false) (a := c) hdic ?_
    cases hg : (aget kvs c).isSome with
    | false =>
      simp_arith only [true_and]
      refine ⟨_, (by repeat (first | exact Le.nil | apply Le.keep | apply Le.drop)), kvs, F, _, _, _, _, rfl, rfl, ou, hkl, by omega, fun x hx => ?_⟩
      rw [zbt hc] at hx
      rcases List.mem_append.mp hx with hx | hx
      · exact dn x hx
      · rw [List.mem_singleton.mp hx]
        intro hm
        have := (zeg kvs c).mpr hm
        rw [hg] at this
        cases this
    | true =>
      have hcm : c ∈ kvs.map (·.1) := (zeg kvs c).mp hg
      simp_arith only [true_and]
      refine zkf (bh_l hlf) hcm (by omega) fun b0 => ?_
      rw [zy0 hlf]
      intro bp hbp
      intro wp hwp
      have hfl : f ≠ l := Ne.symm hlf
      have lb : l ≠ bp := fun e => by rw [← e, bh_l hlf] at hbp; cases hbp
      have fb : f ≠ bp := fun e => by rw [← e, bh_f] at hbp; cases hbp
      have lw : l ≠ wp := fun e => by rw [← e, zdy lb, bh_l hlf] at hwp; cases hwp
      have fw : f ≠ wp := fun e => by rw [← e, zdy fb, bh_f] at hwp; cases hwp
      have bw : bp ≠ wp := fun e => by rw [← e, zg] at hwp; cases hwp
      have d : D4 l f bp wp := ⟨hlf, lb, lw, fb, fw, bw⟩
      have hwp0 : bhp G l f (drK kvs c) F wp = none := by rwa [zdy (Ne.symm bw)] at hwp
      have hnl : ∀ kvs', bhp G l f kvs' F bp = none ∧ bhp G l f kvs' F wp = none := fun kvs' => by
        unfold bhp at hbp hwp0 ⊢
        rw [zdy (Ne.symm fb), zdy (Ne.symm lb)] at hbp ⊢
        rw [zdy (Ne.symm fw), zdy (Ne.symm lw)] at hwp0 ⊢
        exact ⟨hbp, hwp0⟩
      have hdk := List.length_filter_le (fun p : Ce × Bool => decide (p.1 ≠ c)) kvs
      have start := zws ou.nd hcm
      rw [← zke] at start
      refine ⟨fun m η G' => ∃ kvs' b w x6, η = [some (eL e2 cells), some (.ref l), some (.ref f), some (e2 c), some (.ref bp), some (.ref wp), x6] ∧ G' = bh4 G l f bp wp kvs' F b w ∧ BlI (kvs.map (·.1)) c b w (kvs'.map (·.1)) ∧ m = w.length + kvs'.length ∧ b.length + kvs'.length ≤ 2000 ∧ w.length ≤ b.length ∧ kvs'.length ≤ 1000, ⟨_, drK kvs c, [c], [c], x6, rfl, rfl, start, rfl, by unfold drK; simp only [List.length_singleton]; omega, Nat.le_refl _, by unfold drK; omega⟩, ?_⟩
      rintro m η G' ⟨kvs', b, w, x6, rfl, rfl, bl, rfl, hsum, hwb, hk1⟩
      simp_arith only [true_and]
      refine zth (x := .ref wp) (xs := w.map e2) (zqr (b4_w d)) (zcb zbp _) (fun z hz => by obtain ⟨u, _, rfl⟩ := List.mem_map.mp hz; exact Nat.le_trans (zcd u) (by decide)) ?_
      have fzw : bh4 G l f bp wp kvs' F b w wp = some (.lst (w.map e2)) := b4_w d
      have fz1 : dl (dl (bh4 G l f bp wp kvs' F b w) bp) wp = bhp G l f kvs' F := by
        unfold bh4
        rw [zn1 (Ne.symm bw), zaz (hnl kvs').1, zaz (hnl kvs').2]
      have fz2 : dl (bh4 G l f bp wp kvs' F b w) bp wp = some (.lst (w.map e2)) := by
        unfold bh4
        rw [zn1 (Ne.symm bw), zg]
      rcases List.eq_nil_or_concat w with rfl | ⟨w0, y, hw⟩
      · simp_arith only [List.map_nil, List.isEmpty_nil, b4_b d, fz2, fz1, DO.tree]
        refine ⟨by simp only [tyD, bh_f], ?_⟩
        refine zb7 (f := e2) (xs := b) rfl zbp DL.al2 (DL.st2 _) (fun a => Nat.le_trans (zcd a) (by decide)) fun w5 hw5 => ?_
        simp_arith only [zg, zaz hw5, DO.tree]
        rw [zn8 (ds := (srtT e2 b).map e2) rfl]
        refine (zg3 (y := eC (srtT e2 b)) bh_f (zax (by rw [List.length_map]; omega)) ?_).2
        have e1 : up (bhp G l f kvs' F) f (.lst (F.map (fun b => eC (srtT e2 b)) ++ [eC (srtT e2 b)])) = bhp G l f kvs' (F ++ [b]) := by
          unfold bhp
          rw [zfl, List.map_append]
          rfl
        rw [e1]
        refine ⟨_, (by repeat (first | exact Le.nil | apply Le.keep | apply Le.drop)), kvs', F ++ [b], _, _, _, _, rfl, rfl, ou.step hcm bl, hk1, by rw [List.length_append, List.length_singleton]; omega, fun x hx hm => ?_⟩
        rw [zbt hc] at hx
        have hxk : x ∈ kvs.map (·.1) := (bl.mem x).mpr (.inr hm)
        rcases List.mem_append.mp hx with hx | hx
        · exact dn x hx hxk
        · rw [List.mem_singleton.mp hx] at hm
          exact (List.nodup_append.mp bl.nd).2.2 c bl.cb c hm rfl
      · rw [List.concat_eq_append] at hw
        subst hw
        have hie : ((w0 ++ [y]).map e2).isEmpty = false := by cases w0 <;> rfl
        rw [hie]
        simp_arith only [dFor, zx]
        refine zqv (ds := w0.map e2) (d := e2 y) (by rw [b4_w d, List.map_append]; rfl) ?_
        rw [zxz]
        refine ⟨y, rfl, ?_⟩
        rw [List.length_append, List.length_singleton] at hwb
        show ∃ I : Nat → DSt → DHp → Prop, _
        refine ⟨fun j η G' => ∃ kvs2 b2 w2 x6, η = [some (eL e2 cells), some (.ref l), some (.ref f), some (e2 c), some (.ref bp), some (.ref wp), x6] ∧ G' = bh4 G l f bp wp kvs2 F b2 w2 ∧ BlF (kvs.map (·.1)) c y ((nxtL y).take j) b2 w2 (kvs2.map (·.1)) ∧ w2.length + kvs2.length = w0.length + kvs'.length ∧ b2.length + kvs2.length ≤ 2000 ∧ w2.length ≤ b2.length ∧ kvs2.length ≤ 1000, ⟨kvs', b, w0, x6, rfl, rfl, bl.start, rfl, hsum, by omega, hk1⟩, fun _ _ _ _ => trivial, ?_, ?_⟩
        · rintro j dz η G' hdz ⟨kvs2, b2, w2, x6, rfl, rfl, bf, l1, l2, l3, l4⟩
          obtain ⟨z, hz, rfl⟩ := zcn hdz
          have hzt := (zi9.mp (List.mem_of_getElem? hz)).1
          have hdic2 : dicN (.ref l) (bh4 G l f bp wp kvs2 F b2 w2) = some (enc DL.k2 D.bl kvs2) := by show (match bh4 G l f bp wp kvs2 F b2 w2 l with | some (.dN kvs) => some kvs | _ => none) = _; rw [b4_l d]
          simp_arith only [true_and]
          refine zmv tk2 (k := DL.k2) (e := e2) (f := D.bl) (kvs := kvs2) (neg := false) (a := z) hdic2 ?_
          cases hg2 : (aget kvs2 z).isSome with
          | false =>
            simp_arith only [true_and]
            have hzn : z ∉ kvs2.map (·.1) := fun hm => by
              have := (zeg kvs2 z).mpr hm
              rw [hg2] at this
              cases this
            exact ⟨_, (by repeat (first | exact Le.nil | apply Le.keep | apply Le.drop)), kvs2, b2, w2, _, rfl, rfl, by rw [zbt hz]; exact bf.skip hzn, l1, l2, l3, l4⟩
          | true =>
            have hzm : z ∈ kvs2.map (·.1) := (zeg kvs2 z).mp hg2
            simp_arith only [true_and]
            refine zkf (b4_l d) hzm (by omega) fun b1 => ?_
            rw [zy5 d]
            have hnd := (List.nodup_append.mp bf.nd).2.1
            have hdl : (drK kvs2 z).length + 1 = kvs2.length := by
              have h1 : ((kvs2.map (·.1)).erase z).length = (kvs2.map (·.1)).length - 1 := List.length_erase_of_mem hzm
              have h2 : (kvs2.map (·.1)).erase z = (kvs2.map (·.1)).filter fun u => decide (u ≠ z) := by
                rw [hnd.erase_eq_filter]
                exact List.filter_congr fun u _ => by cases hh : decide (u ≠ z) <;> simp_all
              rw [h2, ← zke, List.length_map, List.length_map] at h1
              have h3 : 0 < kvs2.length := by
                cases kvs2 with
                | nil => cases hzm
                | cons _ _ => exact Nat.succ_pos _
              omega
            refine zg3 (y := e2 z) (b4_b d) (zax (by rw [List.length_map]; omega)) ?_
            rw [show b2.map e2 ++ [e2 z] = (b2 ++ [z]).map e2 by rw [List.map_append]; rfl, zzc d]
            refine zg3 (y := e2 z) (b4_w d) (zax (by rw [List.length_map]; omega)) ?_
            rw [show w2.map e2 ++ [e2 z] = (w2 ++ [z]).map e2 by rw [List.map_append]; rfl, zxz]
            refine ⟨_, (by repeat (first | exact Le.nil | apply Le.keep | apply Le.drop)), drK kvs2 z, b2 ++ [z], w2 ++ [z], _, rfl, rfl, by rw [zbt hz, zke]; exact bf.take hzm hzt, ?_, ?_, ?_, by omega⟩
            · rw [List.length_append, List.length_singleton]; omega
            · rw [List.length_append, List.length_singleton]; omega
            · rw [List.length_append, List.length_append, List.length_singleton]; omega
        · rintro η G' ⟨kvs2, b2, w2, x6, rfl, rfl, bf, l1, l2, l3, l4⟩
          rw [List.length_map, List.take_length] at bf
          exact ⟨w2.length + kvs2.length, by rw [List.length_append, List.length_singleton]; omega, _, (by repeat (first | exact Le.nil | apply Le.keep | apply Le.drop)), kvs2, b2, w2, _, rfl, rfl, bf.done, rfl, l2, l3, l4⟩
  · rintro η G' ⟨kvs, F, x3, x4, x5, x6, rfl, rfl, ou, hkl, hF, dn⟩
    rw [List.length_map, es] at hF
    rw [List.length_map, List.take_length] at dn
    have hk0 : kvs = [] := by
      cases e : kvs with
      | nil => rfl
      | cons u r =>
        have hu : u.1 ∈ kvs.map (·.1) := by rw [e]; exact List.mem_cons_self
        exact absurd hu (dn u.1 ((zbh e2 cells).mem_iff.mpr (ou.sub _ hu)))
    subst hk0
    have P : zb4 cells F := zhh (fun x => by rw [List.mem_filter]; exact ⟨fun h => h.1, fun h => ⟨h, decide_eq_true (fun z => by cases z)⟩⟩) ou.part
    have g1 : up G l (.dN (enc DL.k2 D.bl ([] : List (Ce × Bool)))) f = none := by rw [zdy (Ne.symm hlf)]; exact hf1
    unfold bhp
    simp_arith only [zg, zaz g1, zaz hl0, DO.tree]
    refine zb7 (f := eC) (xs := F.map (srtT e2)) (by show some _ = some _; rw [List.map_map]; rfl) zej alC (stC fun v hv => ?_) (fun a => Nat.le_trans (zhi a) (by decide)) fun w5 hw5 => ?_
    · obtain ⟨b, hb, rfl⟩ := List.mem_map.mp hv
      intro e
      have h1 := (zbh e2 b).length_eq
      rw [e] at h1
      exact P.ne b hb (List.length_eq_zero_iff.mp h1.symm)
    · simp_arith only [zg, zaz hw5, DO.tree]
      exact q F P
end M
namespace M
open PySem PySem.Spec PyProof.Rows L2 DL
abbrev Ind (I : Bl) : Prop := I.Pairwise fun a b => ¬ tch a b
theorem Ind.nd {I : Bl} (h : Ind I) : I.Nodup := h.imp fun {a b} n e => n (by rw [e]; exact ze0 b)
theorem Ind.of {I : Bl} (h : Ind I) {a b : Ce} (ha : a ∈ I) (hb : b ∈ I) (n : a ≠ b) : ¬ tch a b := zqk (R := fun a b => ¬ tch a b) (fun _ _ h t => h (ze2 t)) h a ha b hb n
/-- n is the greatest number of cells of U of which no two touch -/
structure AlP (U : Bl) (n : Nat) : Prop where
  ex : ∃ I : Bl, (∀ x ∈ I, x ∈ U) ∧ Ind I ∧ I.length = n
  le : ∀ I : Bl, (∀ x ∈ I, x ∈ U) → Ind I → I.length ≤ n
theorem AlP.mono {U V : Bl} {n m : Nat} (h : AlP U n) (g : AlP V m) (s : ∀ x ∈ U, x ∈ V) : n ≤ m := by
  obtain ⟨I, h1, h2, h3⟩ := h.ex
  rw [← h3]
  exact g.le I (fun x hx => s x (h1 x hx)) h2
theorem AlP.same {U V : Bl} {n m : Nat} (h : AlP U n) (g : AlP V m) (s : ∀ x, x ∈ U ↔ x ∈ V) : n = m := Nat.le_antisymm (h.mono g fun x hx => (s x).mp hx) (g.mono h fun x hx => (s x).mpr hx)
theorem zst {I : Bl} {c : Ce} (nd : I.Nodup) (hc : c ∈ I) : (I.filter fun u => decide (u ≠ c)).length + 1 = I.length := by
  have h1 : (I.erase c).length = I.length - 1 := List.length_erase_of_mem hc
  have h2 : I.erase c = I.filter fun u => decide (u ≠ c) := by
    rw [nd.erase_eq_filter]
    exact List.filter_congr fun u _ => by cases hh : decide (u ≠ c) <;> simp_all
  have h3 : 0 < I.length := List.length_pos_of_mem hc
  rw [← h2, h1]
  omega
theorem zsg : AlP [] 0 := ⟨⟨[], fun x hx => hx, List.Pairwise.nil, rfl⟩, fun I h _ => by
  cases I with
  | nil => exact Nat.le_refl _
  | cons x r => exact absurd (h x List.mem_cons_self) List.not_mem_nil⟩
theorem zqx {U : Bl} {c : Ce} {n1 n2 : Nat} (a1 : AlP U n1) (a2 : AlP (U.filter fun x => decide (¬ tch c x)) n2) : AlP (c :: U) (max n1 (1 + n2)) := by
  refine ⟨?_, fun I hI ind => ?_⟩
  · by_cases q : 1 + n2 ≤ n1
    · rw [Nat.max_eq_left q]
      obtain ⟨I, h1, h2, h3⟩ := a1.ex
      exact ⟨I, fun x hx => List.mem_cons_of_mem _ (h1 x hx), h2, h3⟩
    · rw [Nat.max_eq_right (by omega)]
      obtain ⟨I, h1, h2, h3⟩ := a2.ex
      refine ⟨c :: I, fun x hx => ?_, List.pairwise_cons.mpr ⟨fun x hx => ?_, h2⟩, by rw [List.length_cons, h3]; omega⟩
      · rcases List.mem_cons.mp hx with e | hx
        · rw [e]; exact List.mem_cons_self
        · exact List.mem_cons_of_mem _ (List.mem_filter.mp (h1 x hx)).1
      · exact of_decide_eq_true (List.mem_filter.mp (h1 x hx)).2
  · by_cases hc : c ∈ I
    · have h1 := zst ind.nd hc
      have h2 := a2.le (I.filter fun u => decide (u ≠ c)) (fun x hx => ?_) (ind.sublist List.filter_sublist)
      · have := Nat.le_max_right n1 (1 + n2)
        omega
      · obtain ⟨hx1, hx2⟩ := List.mem_filter.mp hx
        have n : x ≠ c := of_decide_eq_true hx2
        exact List.mem_filter.mpr ⟨(List.mem_cons.mp (hI x hx1)).resolve_left n, decide_eq_true (ind.of hc hx1 (Ne.symm n))⟩
    · have h1 := a1.le I (fun x hx => (List.mem_cons.mp (hI x hx)).resolve_left fun e => hc (by rw [← e]; exact hx)) ind
      exact Nat.le_trans h1 (Nat.le_max_left _ _)
theorem zvc : ∀ (n : Nat) (U : Bl), U.length ≤ n → ∃ m, AlP U m
  | _, [], _ => ⟨0, zsg⟩
  | 0, c :: U, h => by simp at h
  | n + 1, c :: U, h => by
    have hU : U.length ≤ n := by simpa using h
    obtain ⟨n1, a1⟩ := zvc n U hU
    obtain ⟨n2, a2⟩ := zvc n (U.filter fun x => decide (¬ tch c x)) (Nat.le_trans (List.length_filter_le _ _) hU)
    exact ⟨_, zqx a1 a2⟩
noncomputable def al (U : Bl) : Nat := (zvc U.length U (Nat.le_refl _)).choose
theorem alP (U : Bl) : AlP U (al U) := (zvc U.length U (Nat.le_refl _)).choose_spec
theorem zkm {U V : Bl} (s : ∀ x, x ∈ U ↔ x ∈ V) : al U = al V := (alP U).same (alP V) s
theorem zv0 : al [] = 0 := (alP []).same zsg fun _ => Iff.rfl
/-- with a cell, or without -/
theorem zvk {U : Bl} {c : Ce} (hc : c ∈ U) : al U = max (al (U.filter fun x => decide (x ≠ c))) (1 + al ((U.filter fun x => decide (x ≠ c)).filter fun x => decide (x ∉ nxtL c))) := by
  rw [zkm (U := (U.filter fun x => decide (x ≠ c)).filter fun x => decide (x ∉ nxtL c)) (V := (U.filter fun x => decide (x ≠ c)).filter fun x => decide (¬ tch c x)) fun x => ?_]
  · refine (alP U).same (zqx (c := c) (alP (U.filter fun x => decide (x ≠ c))) (alP _)) fun x => ?_
    simp only [List.mem_cons, List.mem_filter, decide_eq_true_eq]
    constructor
    · intro h
      by_cases e : x = c
      · exact .inl e
      · exact .inr ⟨h, e⟩
    · rintro (e | h)
      · rw [e]; exact hc
      · exact h.1
  · simp only [List.mem_filter, decide_eq_true_eq, zi9]
    constructor
    · rintro ⟨h1, h2⟩
      exact ⟨h1, fun h => h2 ⟨h, h1.2⟩⟩
    · rintro ⟨h1, h2⟩
      exact ⟨h1, fun h => h2 h.1⟩
theorem zoe {α : Type} (p : α → Bool) (xs : List α) : (xs.filter p).length + (xs.filter fun x => !p x).length = xs.length := by
  induction xs with
  | nil => rfl
  | cons x r ih =>
    cases e : p x with
    | true => rw [List.filter_cons_of_pos e, List.filter_cons_of_neg (by rw [e]; decide), List.length_cons, List.length_cons]; omega
    | false => rw [List.filter_cons_of_neg (by rw [e]; decide), List.filter_cons_of_pos (by rw [e]; rfl), List.length_cons, List.length_cons]; omega
/-- a cell whose touching cells touch each other is always one of the best -/
theorem zxe {U V : Bl} {c : Ce} (hc : c ∈ U) (cl : ∀ a ∈ U, ∀ b ∈ U, tch c a → tch c b → tch a b) (hV : ∀ x, x ∈ V ↔ x ∈ U ∧ ¬ tch c x) : al U = 1 + al V := by
  refine (alP U).same (V := U) (m := 1 + al V) ⟨?_, fun I hI ind => ?_⟩ fun x => Iff.rfl
  · obtain ⟨I, h1, h2, h3⟩ := (alP V).ex
    refine ⟨c :: I, fun x hx => ?_, List.pairwise_cons.mpr ⟨fun x hx => ((hV x).mp (h1 x hx)).2, h2⟩, by rw [List.length_cons, h3]; omega⟩
    rcases List.mem_cons.mp hx with e | hx
    · rw [e]; exact hc
    · exact ((hV x).mp (h1 x hx)).1
  · have h1 := zoe (fun x => decide (tch c x)) I
    have h2 := (alP V).le (I.filter fun x => !decide (tch c x)) (fun x hx => ?_) (ind.sublist List.filter_sublist)
    · have h3 : (I.filter fun x => decide (tch c x)).length ≤ 1 := by
        have ind2 : Ind (I.filter fun x => decide (tch c x)) := ind.sublist List.filter_sublist
        have hm : ∀ x ∈ I.filter (fun x => decide (tch c x)), x ∈ U ∧ tch c x := fun x hx => ⟨hI x (List.mem_filter.mp hx).1, of_decide_eq_true (List.mem_filter.mp hx).2⟩
        generalize I.filter (fun x => decide (tch c x)) = J at ind2 hm
        cases J with
        | nil => exact Nat.zero_le _
        | cons a J =>
          cases J with
          | nil => exact Nat.le_refl _
          | cons b J =>
            have ha := hm a List.mem_cons_self
            have hb := hm b (List.mem_cons_of_mem _ List.mem_cons_self)
            exact absurd (cl a ha.1 b hb.1 ha.2 hb.2) ((List.pairwise_cons.mp ind2).1 b List.mem_cons_self)
      omega
    · obtain ⟨hx1, hx2⟩ := List.mem_filter.mp hx
      exact (hV x).mpr ⟨hI x hx1, fun t => by rw [decide_eq_true t] at hx2; cases hx2⟩
/-- lots that do not touch -/
theorem zyt {U V : Bl} (far : ∀ x ∈ U, ∀ y ∈ V, ¬ tch x y) : al (U ++ V) = al U + al V := by
  refine (alP (U ++ V)).same (V := U ++ V) (m := al U + al V) ⟨?_, fun I hI ind => ?_⟩ fun x => Iff.rfl
  · obtain ⟨I, h1, h2, h3⟩ := (alP U).ex
    obtain ⟨J, g1, g2, g3⟩ := (alP V).ex
    refine ⟨I ++ J, fun x hx => ?_, List.pairwise_append.mpr ⟨h2, g2, fun x hx y hy => far x (h1 x hx) y (g1 y hy)⟩, by rw [List.length_append, h3, g3]⟩
    rcases List.mem_append.mp hx with hx | hx
    · exact List.mem_append.mpr (.inl (h1 x hx))
    · exact List.mem_append.mpr (.inr (g1 x hx))
  · have h1 := zoe (fun x => decide (x ∈ U)) I
    have h2 := (alP U).le (I.filter fun x => decide (x ∈ U)) (fun x hx => of_decide_eq_true (List.mem_filter.mp hx).2) (ind.sublist List.filter_sublist)
    have h3 := (alP V).le (I.filter fun x => !decide (x ∈ U)) (fun x hx => ?_) (ind.sublist List.filter_sublist)
    · omega
    · obtain ⟨hx1, hx2⟩ := List.mem_filter.mp hx
      refine (List.mem_append.mp (hI x hx1)).resolve_left fun h => ?_
      rw [decide_eq_true h] at hx2
      cases hx2
theorem zp6 : ∀ {L : List Bl}, (L.Pairwise fun b b' => ∀ x ∈ b, ∀ y ∈ b', ¬ tch x y) → al L.flatten = (L.map al).sum
  | [], _ => zv0
  | b :: L, h => by
    obtain ⟨h1, h2⟩ := List.pairwise_cons.mp h
    rw [List.flatten_cons, List.map_cons, List.sum_cons, zyt fun x hx y hy => ?_, zp6 h2]
    obtain ⟨b', hb', hy'⟩ := List.mem_flatten.mp hy
    exact h1 b' hb' x hx y hy'
/-- a lot in its parts -/
theorem zuj {S : Bl} {L : List Bl} (P : zb4 S L) : al S = (L.map al).sum := by
  rw [← zp6 P.apart]
  refine zkm fun x => ?_
  rw [P.cov x, List.mem_flatten]
/-- .. any lot within the cells of parts -/
theorem zyu {S V : Bl} {L : List Bl} (P : zb4 S L) (hV : ∀ x ∈ V, x ∈ S) : al V = (L.map fun b => al (V.filter fun x => decide (x ∈ b))).sum := by
  have inb : ∀ (b : Bl) (x : Ce), x ∈ V.filter (fun x => decide (x ∈ b)) → x ∈ b := fun b x hx => by
    have := (List.mem_filter.mp hx).2
    exact of_decide_eq_true this
  have e := zp6 (L := L.map fun b => V.filter fun x => decide (x ∈ b)) (List.pairwise_map.mpr (P.apart.imp fun {b b'} h x hx y hy => h x (inb b x hx) y (inb b' y hy)))
  rw [List.map_map] at e
  rw [show (L.map fun b => al (V.filter fun x => decide (x ∈ b))) = L.map (al ∘ fun b => V.filter fun x => decide (x ∈ b)) from rfl, ← e]
  refine zkm fun x => ?_
  rw [List.mem_flatten]
  constructor
  · intro hx
    obtain ⟨b, hb, hxb⟩ := (P.cov x).mp (hV x hx)
    exact ⟨_, List.mem_map.mpr ⟨b, hb, rfl⟩, List.mem_filter.mpr ⟨hx, decide_eq_true hxb⟩⟩
  · rintro ⟨c, hc, hx⟩
    obtain ⟨b, _, rfl⟩ := List.mem_map.mp hc
    exact (List.mem_filter.mp hx).1
end M
namespace M
open PySem PySem.Spec PyProof.Rows L2 DL
theorem zoj {K : Bl} {LK : List Bl} (P : zb4 K LK) {c : Ce} (hc : c ∉ K) : ∃ L, zb4 (K ++ [c]) L ∧ L.length ≤ LK.length + 1 ∧ ((∃ k ∈ K, tch k c) → L.length ≤ LK.length) ∧ ((∀ k ∈ K, ¬ tch k c) → L.length = LK.length + 1) := by
  have j := ztf P (zwr c) (fun x hx => by rw [List.mem_singleton.mp hx]; exact hc)
  refine ⟨_, j, ?_, fun ⟨k, hk, t⟩ => ?_, fun far => ?_⟩
  · rw [List.length_append, List.length_singleton]
    have := List.length_filter_le (fun o => !touB [c] o) LK
    omega
  · rw [List.length_append, List.length_singleton]
    obtain ⟨b, hb, hkb⟩ := (P.cov k).mp hk
    have ht : touB [c] b = true := zmz.mpr ⟨c, List.mem_singleton.mpr rfl, k, hkb, ze2 t⟩
    have h1 := zoe (touB [c]) LK
    have h2 : 0 < (LK.filter (touB [c])).length := List.length_pos_of_mem (List.mem_filter.mpr ⟨hb, ht⟩)
    omega
  · rw [List.length_append, List.length_singleton, List.filter_eq_self.mpr fun o ho => ?_]
    rw [Bool.not_eq_true']
    cases e : touB [c] o with
    | false => rfl
    | true =>
      obtain ⟨x, hx, y, hy, t⟩ := zmz.mp e
      rw [List.mem_singleton.mp hx] at t
      exact absurd (ze2 t) (far y ((P.cov y).mpr ⟨o, ho, hy⟩))
theorem zfh {α : Type} {p : List α → Prop} (h0 : p []) (h1 : ∀ xs x, p xs → p (xs ++ [x])) (xs : List α) : p xs := by
  have : ∀ n, ∀ xs : List α, xs.length = n → p xs := by
    intro n
    induction n with
    | zero => intro xs h; rw [List.length_eq_zero_iff.mp h]; exact h0
    | succ n ih =>
      intro xs h
      rcases List.eq_nil_or_concat xs with e | ⟨r, x, e⟩
      · rw [e]; exact h0
      · rw [List.concat_eq_append] at e
        subst e
        exact h1 _ _ (ih r (by simpa using h))
  exact this _ xs rfl
theorem znh (S : Bl) : ∃ L, zb4 S L := by
  refine zfh (p := fun S => ∃ L, zb4 S L) ⟨[], zqs⟩ (fun xs x ⟨L, P⟩ => ?_) S
  by_cases h : x ∈ xs
  · exact ⟨L, zhh (fun y => by
      rw [List.mem_append, List.mem_singleton]
      exact ⟨.inl, fun h' => h'.elim id fun e => by rw [e]; exact h⟩) P⟩
  · obtain ⟨L', P', _⟩ := zoj P h
    exact ⟨L', P'⟩
/-- the parts of some cells -/
noncomputable def blkC (S : Bl) : List Bl := blkS (znh S).choose
theorem zqq {S : Bl} {L : List Bl} (P : zb4 S L) : blkS L = blkC S := zt5 P (znh S).choose_spec
theorem ze9 {S T : Bl} (s : ∀ x, x ∈ S ↔ x ∈ T) : blkC S = blkC T := by
  have P := zhh s (znh S).choose_spec
  exact zqq P
theorem zj3 {S : Bl} {L : List Bl} (P : zb4 S L) : (blkC S).length = L.length := by
  rw [← zqq P]
  unfold blkS
  rw [(zbh eC _).length_eq, List.length_map]
theorem zui {a b : Bl} (p : a.Perm b) {x y : Ce} (w : Way2 a x y) : Way2 b x y := w.mono fun z hz => p.mem_iff.mp hz
theorem zup {S : Bl} {L : List Bl} (P : zb4 S L) : zb4 S (L.map (srtT e2)) := by
  have m : ∀ (b : Bl) (x : Ce), x ∈ srtT e2 b ↔ x ∈ b := fun b x => (zbh e2 b).mem_iff
  refine ⟨fun x => ?_, fun b hb => ?_, fun b hb x hx y hy => ?_, List.pairwise_map.mpr (P.apart.imp fun {b b'} h x hx y hy => h x ((m b x).mp hx) y ((m b' y).mp hy)), fun b hb => ?_⟩
  · rw [P.cov x]
    constructor
    · rintro ⟨b, hb, hx⟩
      exact ⟨_, List.mem_map.mpr ⟨b, hb, rfl⟩, (m b x).mpr hx⟩
    · rintro ⟨c, hc, hx⟩
      obtain ⟨b, hb, rfl⟩ := List.mem_map.mp hc
      exact ⟨b, hb, (m b x).mp hx⟩
  · obtain ⟨d, hd, rfl⟩ := List.mem_map.mp hb
    intro e
    have p := zbh e2 d
    rw [e] at p
    exact P.ne d hd p.symm.eq_nil
  · obtain ⟨d, hd, rfl⟩ := List.mem_map.mp hb
    exact zui (zbh e2 d).symm (P.hang d hd x ((m d x).mp hx) y ((m d y).mp hy))
  · obtain ⟨d, hd, rfl⟩ := List.mem_map.mp hb
    exact (zbh e2 d).nodup_iff.mpr (P.nd d hd)
theorem zsi {S : Bl} {L L' : List Bl} (P : zb4 S L) (p : L.Perm L') : zb4 S L' := by
  refine ⟨fun x => ?_, fun b hb => P.ne b (p.mem_iff.mpr hb), fun b hb => P.hang b (p.mem_iff.mpr hb), ?_, fun b hb => P.nd b (p.mem_iff.mpr hb)⟩
  · rw [P.cov x]
    exact ⟨fun ⟨b, hb, hx⟩ => ⟨b, p.mem_iff.mp hb, hx⟩, fun ⟨b, hb, hx⟩ => ⟨b, p.mem_iff.mpr hb, hx⟩⟩
  · exact p.pairwise P.apart fun {a b} h x hx y hy t => h y hy x hx (ze2 t)
/-- the parts themselves -/
theorem zbg (S : Bl) : zb4 S (blkC S) := zsi (zup (znh S).choose_spec) (zbh eC _).symm
theorem zq5 {S b : Bl} (hb : b ∈ blkC S) : srtT e2 b = b := by
  obtain ⟨d, _, rfl⟩ := List.mem_map.mp ((zbh eC _).mem_iff.mp hb)
  exact zky (zbh e2 d)
theorem zpq {A B : List Bl} (p : A.Perm B) : srtT eC A = srtT eC B := znf zej alC (fun _ _ h => zqw h) p
theorem zp0 (S : Bl) : srtT eC (blkC S) = blkC S := zpq (zbh eC _)
theorem ztb (S : Bl) : (blkC S).Pairwise fun a b => PySem.W.dataLe false py (eC a) (eC b) = true := znn _
/-- lots of parts of the same blocks are the same -/
theorem zyg {A B : List Bl} (hA : A.Pairwise fun a b => PySem.W.dataLe false py (eC a) (eC b) = true) (hB : B.Pairwise fun a b => PySem.W.dataLe false py (eC a) (eC b) = true) (na : A.Nodup) (nb : B.Nodup) (m : ∀ b, b ∈ A ↔ b ∈ B) : A = B :=
  zgw (le := fun a b => PySem.W.dataLe false py (eC a) (eC b)) (zsj zej alC (fun _ _ h => zqw h)) (zhj na nb m) hA hB
/-- more cells: at most one part more for each of some that touch neither each other nor what was there -/
theorem zud {K : Bl} {LK : List Bl} (P : zb4 K LK) (T : Bl) : (∀ x ∈ T, x ∉ K) → T.Nodup → ∃ L, zb4 (K ++ T) L ∧ ∃ I : Bl, (∀ x ∈ I, x ∈ T ∧ ∀ k ∈ K, ¬ tch k x) ∧ Ind I ∧ L.length ≤ LK.length + I.length := by
  refine zfh (p := fun T => (∀ x ∈ T, x ∉ K) → T.Nodup → ∃ L, zb4 (K ++ T) L ∧ ∃ I : Bl, (∀ x ∈ I, x ∈ T ∧ ∀ k ∈ K, ¬ tch k x) ∧ Ind I ∧ L.length ≤ LK.length + I.length) (fun _ _ => ⟨LK, by rw [List.append_nil]; exact P, [], fun x hx => (by cases hx), List.Pairwise.nil, Nat.le_refl _⟩) (fun T c ih hK nd => ?_) T
  obtain ⟨L, PL, I, h1, h2, h3⟩ := ih (fun x hx => hK x (List.mem_append.mpr (.inl hx))) (List.nodup_append.mp nd).1
  have hcT : c ∉ T := fun h => (List.nodup_append.mp nd).2.2 c h c (List.mem_singleton.mpr rfl) rfl
  have hc : c ∉ K ++ T := fun h => (List.mem_append.mp h).elim (hK c (List.mem_append.mpr (.inr (List.mem_singleton.mpr rfl)))) hcT
  obtain ⟨L', P', g1, g2, _⟩ := zoj PL hc
  refine ⟨L', by rw [← List.append_assoc]; exact P', ?_⟩
  by_cases t : ∃ k ∈ K ++ T, tch k c
  · exact ⟨I, fun x hx => ⟨List.mem_append.mpr (.inl (h1 x hx).1), (h1 x hx).2⟩, h2, Nat.le_trans (g2 t) h3⟩
  · refine ⟨I ++ [c], fun x hx => ?_, List.pairwise_append.mpr ⟨h2, List.pairwise_singleton _ _, fun x hx y hy t' => ?_⟩, by rw [List.length_append, List.length_singleton]; omega⟩
    · rcases List.mem_append.mp hx with hx | hx
      · exact ⟨List.mem_append.mpr (.inl (h1 x hx).1), (h1 x hx).2⟩
      · rw [List.mem_singleton.mp hx]
        exact ⟨List.mem_append.mpr (.inr (List.mem_singleton.mpr rfl)), fun k hk t' => t ⟨k, List.mem_append.mpr (.inl hk), t'⟩⟩
    · rw [List.mem_singleton.mp hy] at t'
      exact t ⟨x, List.mem_append.mpr (.inr (h1 x hx).1), t'⟩
theorem zs5 {K : Bl} {LK : List Bl} (P : zb4 K LK) (I : Bl) : (∀ x ∈ I, ∀ k ∈ K, ¬ tch k x) → Ind I → ∃ L, zb4 (K ++ I) L ∧ L.length = LK.length + I.length := by
  refine zfh (p := fun I => (∀ x ∈ I, ∀ k ∈ K, ¬ tch k x) → Ind I → ∃ L, zb4 (K ++ I) L ∧ L.length = LK.length + I.length) (fun _ _ => ⟨LK, by rw [List.append_nil]; exact P, rfl⟩) (fun I c ih hK ind => ?_) I
  obtain ⟨L, PL, h1⟩ := ih (fun x hx => hK x (List.mem_append.mpr (.inl hx))) (List.pairwise_append.mp ind).1
  have far : ∀ k ∈ K ++ I, ¬ tch k c := fun k hk => (List.mem_append.mp hk).elim (hK c (List.mem_append.mpr (.inr (List.mem_singleton.mpr rfl))) k) fun h => (List.pairwise_append.mp ind).2.2 k h c (List.mem_singleton.mpr rfl)
  obtain ⟨L', P', _, _, g3⟩ := zoj PL (fun h => far c h (ze0 c))
  exact ⟨L', by rw [← List.append_assoc]; exact P', by rw [g3 far, h1, List.length_append, List.length_singleton]; omega⟩
/-- the parts of some cells, cut by lots that do not touch -/
theorem ztw {M S : Bl} {L : List Bl} (P : zb4 M L) (hS : ∀ x ∈ S, x ∈ M) : (blkC S).length = (L.map fun b => (blkC (S.filter fun x => decide (x ∈ b))).length).sum := by
  have Q : zb4 S (L.flatMap fun b => blkC (S.filter fun x => decide (x ∈ b))) := by
    have hp := fun (b : Bl) => zbg (S.filter fun x => decide (x ∈ b))
    have inb : ∀ (b c : Bl), c ∈ blkC (S.filter fun x => decide (x ∈ b)) → ∀ x ∈ c, x ∈ b := fun b c hc x hx => by
      have := (List.mem_filter.mp (((hp b).cov x).mpr ⟨c, hc, hx⟩)).2
      exact of_decide_eq_true this
    refine ⟨fun x => ?_, fun c hc => ?_, fun c hc => ?_, ?_, fun c hc => ?_⟩
    · constructor
      · intro hx
        obtain ⟨b, hb, hxb⟩ := (P.cov x).mp (hS x hx)
        obtain ⟨c, hc, hxc⟩ := ((hp b).cov x).mp (List.mem_filter.mpr ⟨hx, decide_eq_true hxb⟩)
        exact ⟨c, List.mem_flatMap.mpr ⟨b, hb, hc⟩, hxc⟩
      · rintro ⟨c, hc, hx⟩
        obtain ⟨b, _, hc⟩ := List.mem_flatMap.mp hc
        exact (List.mem_filter.mp (((hp b).cov x).mpr ⟨c, hc, hx⟩)).1
    · obtain ⟨b, _, hc⟩ := List.mem_flatMap.mp hc
      exact (hp b).ne c hc
    · obtain ⟨b, _, hc⟩ := List.mem_flatMap.mp hc
      exact (hp b).hang c hc
    · rw [List.flatMap]
      refine List.pairwise_flatten.mpr ⟨fun A hA => ?_, List.pairwise_map.mpr (P.apart.imp fun {b b'} h c hc d hd x hx y hy => h x (inb b c hc x hx) y (inb b' d hd y hy))⟩
      obtain ⟨b, _, rfl⟩ := List.mem_map.mp hA
      exact (hp b).apart
    · obtain ⟨b, _, hc⟩ := List.mem_flatMap.mp hc
      exact (hp b).nd c hc
  rw [zj3 Q, List.length_flatMap]
/-- the greatest number of parts of kept cells and some of others -/
theorem zn0 {K D T : Bl} (hT : ∀ x ∈ T, x ∈ D ∧ x ∉ K) (nd : T.Nodup) {S : Bl} (hS : ∀ x, x ∈ S ↔ x ∈ K ∨ x ∈ T) :
    (blkC S).length ≤ (blkC K).length + al (D.filter fun x => decide (∀ k ∈ K, ¬ tch k x)) := by
  obtain ⟨L, P, I, h1, h2, h3⟩ := zud (zbg K) T (fun x hx => (hT x hx).2) nd
  rw [ze9 (S := S) (T := K ++ T) fun x => by rw [hS, List.mem_append], zj3 P]
  have := (alP (D.filter fun x => decide (∀ k ∈ K, ¬ tch k x))).le I (fun x hx => List.mem_filter.mpr ⟨(hT x (h1 x hx).1).1, decide_eq_true (h1 x hx).2⟩) h2
  omega
theorem zoi (K D : Bl) : ∃ T : Bl, (∀ x ∈ T, x ∈ D) ∧ T.Nodup ∧ (∀ x ∈ T, x ∉ K) ∧ ∀ S : Bl, (∀ x, x ∈ S ↔ x ∈ K ∨ x ∈ T) → (blkC S).length = (blkC K).length + al (D.filter fun x => decide (∀ k ∈ K, ¬ tch k x)) := by
  obtain ⟨I, h1, h2, h3⟩ := (alP (D.filter fun x => decide (∀ k ∈ K, ¬ tch k x))).ex
  have far : ∀ x ∈ I, ∀ k ∈ K, ¬ tch k x := fun x hx => of_decide_eq_true (List.mem_filter.mp (h1 x hx)).2
  refine ⟨I, fun x hx => (List.mem_filter.mp (h1 x hx)).1, h2.nd, fun x hx hk => far x hx x hk (ze0 x), fun S hS => ?_⟩
  obtain ⟨L, P, e⟩ := zs5 (zbg K) I far h2
  rw [ze9 (S := S) (T := K ++ I) fun x => by rw [hS, List.mem_append], zj3 P, e, h3]
end M
namespace M
open PySem PySem.Spec PyProof.Rows L2 DL
class CA where
  (MoonError BadGround BadCamera BadSky BadPicture BadStanding Ground Camera Sky TooMany Search BadDeed BadCraft BadBelief BadFlight BadCut BadText Values Looks Deed Craft Lander Flight Engines Crew Tree Survey Joint : Addr)
variable [CA]
abbrev rwD (rows : List (List Int)) : D := eL (eT .int) rows
def zco (l : Int) (y : Nat) (row : List Int) : Bl := ((row.mapIdx fun i b => ((i : Int), b)).filter fun p => decide (l ≤ p.2)).map fun p => (p.1, (y : Int))
def brU (rows : List (List Int)) (l : Int) : Bl := (rows.mapIdx (zco l)).flatten
theorem ziq {l : Int} {y : Nat} {row : List Int} {c : Ce} : c ∈ zco l y row ↔ ∃ (i : Nat) (b : Int), row[i]? = some b ∧ l ≤ b ∧ c = ((i : Int), (y : Int)) := by
  unfold zco
  rw [List.mem_map]
  constructor
  · rintro ⟨p, hp, rfl⟩
    obtain ⟨h1, h2⟩ := List.mem_filter.mp hp
    obtain ⟨i, hi, e⟩ := List.mem_mapIdx.mp h1
    subst e
    exact ⟨i, _, List.getElem?_eq_getElem hi, of_decide_eq_true h2, rfl⟩
  · rintro ⟨i, b, h1, h2, rfl⟩
    obtain ⟨hi, e⟩ := List.getElem?_eq_some_iff.mp h1
    refine ⟨((i : Int), b), List.mem_filter.mpr ⟨List.mem_mapIdx.mpr ⟨i, hi, by rw [e]⟩, decide_eq_true h2⟩, rfl⟩
theorem zqj {rows : List (List Int)} {l : Int} {c : Ce} : c ∈ brU rows l ↔ ∃ (y i : Nat) (row : List Int) (b : Int), rows[y]? = some row ∧ row[i]? = some b ∧ l ≤ b ∧ c = ((i : Int), (y : Int)) := by
  unfold brU
  rw [List.mem_flatten]
  constructor
  · rintro ⟨L, hL, hc⟩
    obtain ⟨y, hy, e⟩ := List.mem_mapIdx.mp hL
    subst e
    obtain ⟨i, b, h1, h2, h3⟩ := ziq.mp hc
    exact ⟨y, i, _, b, List.getElem?_eq_getElem hy, h1, h2, h3⟩
  · rintro ⟨y, i, row, b, h1, h2, h3, h4⟩
    obtain ⟨hy, e⟩ := List.getElem?_eq_some_iff.mp h1
    exact ⟨zco l y row, List.mem_mapIdx.mpr ⟨y, hy, by rw [e]⟩, ziq.mpr ⟨i, b, h2, h3, h4⟩⟩
theorem zt3 {α : Type} {R : α → α → Prop} {β : Type} (f : Nat → β → α) (xs : List β) (h : ∀ i j a b, i < j → xs[i]? = some a → xs[j]? = some b → R (f i a) (f j b)) : (xs.mapIdx f).Pairwise R := by
  refine List.pairwise_iff_getElem.mpr fun i j hi hj hij => ?_
  rw [List.length_mapIdx] at hi hj
  rw [List.getElem_mapIdx, List.getElem_mapIdx]
  exact h i j _ _ hij (List.getElem?_eq_getElem hi) (List.getElem?_eq_getElem hj)
theorem zp8 (l : Int) (y : Nat) (row : List Int) : (zco l y row).Nodup := by
  have h1 : (row.mapIdx fun i b => ((i : Int), b)).Pairwise fun p q => p.1 ≠ q.1 := zt3 _ _ fun i j a b h _ _ e => by
    have e2 : (i : Int) = (j : Int) := e
    omega
  exact List.pairwise_map.mpr ((h1.sublist List.filter_sublist).imp fun {p q} n (e : (p.1, (y : Int)) = (q.1, (y : Int))) => n (Prod.mk.inj e).1)
theorem zps (rows : List (List Int)) (l : Int) : (brU rows l).Nodup := by
  refine List.pairwise_flatten.mpr ⟨fun L hL => ?_, zt3 _ _ fun i j a b h _ _ x hx y hy e => ?_⟩
  · obtain ⟨y, hy, e⟩ := List.mem_mapIdx.mp hL
    subst e
    exact zp8 _ _ _
  · obtain ⟨i1, b1, _, _, e1⟩ := ziq.mp hx
    obtain ⟨i2, b2, _, _, e2'⟩ := ziq.mp hy
    rw [e1, e2'] at e
    have := congrArg Prod.snd e
    have e3 : (i : Int) = (j : Int) := this
    omega
theorem zis (l : Int) (y : Nat) (row : List Int) : (zco l y row).length ≤ row.length := by
  unfold zco
  rw [List.length_map]
  refine Nat.le_trans (List.length_filter_le _ _) ?_
  rw [List.length_mapIdx]
  exact Nat.le_refl _
theorem zrg {α : Type} {B : Nat} : ∀ {L : List (List α)}, (∀ r ∈ L, r.length ≤ B) → L.flatten.length ≤ L.length * B
  | [], _ => by simp
  | r :: L, h => by
    have h1 := h r List.mem_cons_self
    have h2 := zrg (L := L) fun r hr => h r (List.mem_cons_of_mem _ hr)
    rw [List.flatten_cons, List.length_append, List.length_cons, Nat.succ_mul]
    omega
theorem zqn {α : Type} {L : List (List α)} {i : Nat} {r : List α} (h : L[i]? = some r) : (L.take (i + 1)).flatten = (L.take i).flatten ++ r := by
  rw [zbt h, List.flatten_append, List.flatten_cons, List.flatten_nil, List.append_nil]
def zas : DRn := fun ds G Q => ∃ (rows : List (List Int)) (l : Int), ds = [rwD rows, .int l] ∧ rows.length ≤ 30 ∧ (∀ r ∈ rows, r.length ≤ 30) ∧ Q (eL e2 (srtT e2 (brU rows l))) G
abbrev zdk : List Str := ["rows", "level", "found", "y", "row", "x", "bright"]
def zf6 : DTS :=
    (dSeq (dAsg (zf2 dNil) (zj 2))
    (dSeq (dFor (zpc (zf (ze 0) dNil)) (zfd (za2 (zj 3) (za2 (zj 4) zfa)) 2)
    (dAug 2 (dFz (dLc (zpc (zf (ze 4) dNil)) (zfd (za2 (zj 5) (za2 (zj 6) zfa)) 2) (zbl (dOp dGe (ze 6) (ze 1))) (dTup (zf (ze 5) (zf (ze 3) dNil))) [5, 6])) zjw))
    (dFrz 2 (dRet (dFz (dCB zd3 (zf (ze 2) dNil)))))))
theorem zjx : ∀ ds G Q, zas ds G Q → ds.length = 2 := fun ds G Q ⟨_, _, e, _⟩ => by rw [e]; rfl
theorem zj8 (rows : List (List Int)) (l : Int) (h1 : rows.length ≤ 30) (h2 : ∀ r ∈ rows, r.length ≤ 30) (i : Nat) : (((rows.mapIdx (zco l)).take i).flatten).length ≤ 900 := by
  have := zrg (B := 30) (L := (rows.mapIdx (zco l)).take i) fun r hr => by
    obtain ⟨y, hy, e⟩ := List.mem_mapIdx.mp (List.mem_of_mem_take hr)
    subst e
    exact Nat.le_trans (zis _ _ _) (h2 _ (List.getElem_mem _))
  rw [List.length_take, List.length_mapIdx] at this
  omega
theorem zj0 : ∀ ds G Q, zas ds G Q → zf6 { nx := fun _ G' => Q .non G', rt := Q } (zbj zdk ds) G := fun ds G Q h => by
  obtain ⟨rows, l, rfl, h1, h2, q⟩ := h
  simp_arith only [zf6, zdk]
  intro p hp
  simp_arith only [dFor, zpc, eT, eL]
  refine ⟨fun i η G' => ∃ x3 x4 x5 x6, η = [some (rwD rows), some (.int l), some (.ref p), x3, x4, x5, x6] ∧ G' = up G p (.lst ((((rows.mapIdx (zco l)).take i).flatten).map e2)), ⟨none, none, none, none, rfl, rfl⟩, fun _ _ _ _ => trivial, ?_, ?_⟩
  · rintro i d η G' hd ⟨x3, x4, x5, x6, rfl, rfl⟩
    obtain ⟨z, hz, rfl⟩ := zkq hd
    obtain ⟨row, hrow, rfl⟩ := zcn hz
    have hrl := h2 _ (List.mem_of_getElem? hrow)
    have hX : (rows.mapIdx (zco l))[i]? = some (zco l i row) := by rw [List.getElem?_mapIdx, hrow]; rfl
    simp_arith only [true_and]
    refine zfi (xs := row.mapIdx fun i b => ((i : Int), b)) (f := fun z => .nd .tup [.int z.1, .int z.2]) (fun z => decide (l ≤ z.2)) (fun z => e2 (z.1, (i : Int))) (by rw [List.length_mapIdx]; omega) (fun R r => ?_) (fun z hz G1 A B ka kb => ?_) fun w hw => ?_
    · simp_arith only [zpc, eT]
      rw [zs9]
      exact r
    · simp_arith only [true_and]
      by_cases c : l ≤ z.2
      · rw [if_pos c]
        exact ka (decide_eq_true c)
      · rw [if_neg c]
        exact kb (decide_eq_false c)
    · simp_arith only [zg, zaz hw, DO.tree]
      have e1 : ((row.mapIdx fun i b => ((i : Int), b)).filter fun z => decide (l ≤ z.2)).map (fun z => e2 (z.1, (i : Int))) = (zco l i row).map e2 := by
        unfold zco
        rw [List.map_map]
        rfl
      rw [e1]
      have hl1 := zj8 rows l h1 h2 i
      have hl2 := zis l i row
      refine zij (xs := (((rows.mapIdx (zco l)).take i).flatten).map e2) (ys := (zco l i row).map e2) zg rfl (zf1 (by rw [List.length_map, List.length_map]; omega)) ?_
      rw [zfl, ← List.map_append, ← zqn hX]
      exact ⟨_, (by repeat (first | exact Le.nil | apply Le.keep | apply Le.drop)), _, _, _, _, rfl, rfl⟩
  · rintro η G' ⟨x3, x4, x5, x6, rfl, rfl⟩
    rw [zlp, List.length_map, show rows.length = (rows.mapIdx (zco l)).length by rw [List.length_mapIdx], List.take_length]
    simp_arith only [zg, zaz hp, DO.tree]
    refine zb7 (f := e2) (xs := brU rows l) rfl zbp DL.al2 (DL.st2 _) (fun a => Nat.le_trans (zcd a) (by decide)) fun w hw => ?_
    simp_arith only [zg, zaz hw, DO.tree]
    exact q
def mxL (xs : List Int) : Int := match xs with
  | [] => 0
  | x :: r => r.foldr max x
def mnL (xs : List Int) : Int := match xs with
  | [] => 0
  | x :: r => r.foldr min x
theorem zj1 {xs : List Int} (h : xs ≠ []) : mxL xs ∈ xs ∧ ∀ y ∈ xs, y ≤ mxL xs := by
  cases xs with
  | nil => exact absurd rfl h
  | cons x r =>
    clear h
    show r.foldr max x ∈ x :: r ∧ ∀ y ∈ x :: r, y ≤ r.foldr max x
    induction r with
    | nil => exact ⟨List.mem_cons_self, fun y hy => by rw [List.mem_singleton.mp hy]; exact Int.le_refl _⟩
    | cons a r ih =>
      obtain ⟨h1, h2⟩ := ih
      rw [List.foldr_cons]
      generalize hm : r.foldr max x = m at h1 h2 ⊢
      have hx := h2 x List.mem_cons_self
      have hr : ∀ y ∈ r, y ≤ m := fun y hy => h2 y (List.mem_cons_of_mem _ hy)
      rcases Int.le_total a m with h | h
      · rw [Int.max_eq_right h]
        refine ⟨?_, fun y hy => ?_⟩
        · rcases List.mem_cons.mp h1 with h3 | h3
          · rw [h3]; exact List.mem_cons_self
          · exact List.mem_cons_of_mem _ (List.mem_cons_of_mem _ h3)
        · rcases List.mem_cons.mp hy with h3 | h3
          · rw [h3]; exact hx
          · rcases List.mem_cons.mp h3 with h3 | h3
            · rw [h3]; exact h
            · exact hr y h3
      · rw [Int.max_eq_left h]
        refine ⟨List.mem_cons_of_mem _ List.mem_cons_self, fun y hy => ?_⟩
        rcases List.mem_cons.mp hy with h3 | h3
        · rw [h3]; omega
        · rcases List.mem_cons.mp h3 with h3 | h3
          · rw [h3]; exact Int.le_refl _
          · have := hr y h3; omega
theorem zrl {xs : List Int} (h : xs ≠ []) : mnL xs ∈ xs ∧ ∀ y ∈ xs, mnL xs ≤ y := by
  cases xs with
  | nil => exact absurd rfl h
  | cons x r =>
    clear h
    show r.foldr min x ∈ x :: r ∧ ∀ y ∈ x :: r, r.foldr min x ≤ y
    induction r with
    | nil => exact ⟨List.mem_cons_self, fun y hy => by rw [List.mem_singleton.mp hy]; exact Int.le_refl _⟩
    | cons a r ih =>
      obtain ⟨h1, h2⟩ := ih
      rw [List.foldr_cons]
      generalize hm : r.foldr min x = m at h1 h2 ⊢
      have hx := h2 x List.mem_cons_self
      have hr : ∀ y ∈ r, m ≤ y := fun y hy => h2 y (List.mem_cons_of_mem _ hy)
      rcases Int.le_total m a with h | h
      · rw [Int.min_eq_right h]
        refine ⟨?_, fun y hy => ?_⟩
        · rcases List.mem_cons.mp h1 with h3 | h3
          · rw [h3]; exact List.mem_cons_self
          · exact List.mem_cons_of_mem _ (List.mem_cons_of_mem _ h3)
        · rcases List.mem_cons.mp hy with h3 | h3
          · rw [h3]; exact hx
          · rcases List.mem_cons.mp h3 with h3 | h3
            · rw [h3]; exact h
            · exact hr y h3
      · rw [Int.min_eq_left h]
        refine ⟨List.mem_cons_of_mem _ List.mem_cons_self, fun y hy => ?_⟩
        rcases List.mem_cons.mp hy with h3 | h3
        · rw [h3]; omega
        · rcases List.mem_cons.mp h3 with h3 | h3
          · rw [h3]; exact Int.le_refl _
          · have := hr y h3; omega
theorem zhn {xs : List Int} (h : xs ≠ []) {G : DHp} {Q : DVK} (q : Q (.int (mxL xs)) G) : zpl [eL .int xs] G Q := by
  refine ⟨xs, rfl, List.length_pos_iff.mpr h, fun m hm hy => ?_⟩
  obtain ⟨h1, h2⟩ := zj1 h
  have h3 := hy _ h1
  have h4 := h2 _ hm
  rw [show m = mxL xs by omega]
  exact q
theorem zj2 {xs : List Int} (h : xs ≠ []) {G : DHp} {Q : DVK} (q : Q (.int (mnL xs)) G) : zr5 [eL .int xs] G Q := by
  refine ⟨xs, rfl, List.length_pos_iff.mpr h, fun m hm hy => ?_⟩
  obtain ⟨h1, h2⟩ := zrl h
  have h3 := hy _ h1
  have h4 := h2 _ hm
  rw [show m = mnL xs by omega]
  exact q
def xsB (b : Bl) : List Int := b.map (·.1)
def ysB (b : Bl) : List Int := b.map (·.2)
def midB (b : Bl) : Ce := ((mnL (xsB b) + mxL (xsB b)) / 2, (mnL (ysB b) + mxL (ysB b)) / 2)
theorem zqy {b : Bl} (h : b ≠ []) : xsB b ≠ [] := fun e => h (List.map_eq_nil_iff.mp e)
theorem zrj {b : Bl} (h : b ≠ []) : ysB b ≠ [] := fun e => h (List.map_eq_nil_iff.mp e)
def zdi : DRn := fun ds G Q => ∃ b : Bl, ds = [eC b] ∧ b ≠ [] ∧ b.length ≤ 1000 ∧ Q (e2 (midB b)) G
abbrev zho : List Str := ["blob", "rows", "columns", "x", "y"]
def znk : DTS :=
    (dSeq (dPar 1 2 (zf (dFz (dLc (zx (ze 0)) (zfd (za2 (zj 3) (za2 (zj 4) zfa)) 2) dYes (ze 4) [3, 4])) (zf (dFz (dLc (zx (ze 0)) (zfd (za2 (zj 3) (za2 (zj 4) zfa)) 2) dYes (ze 3) [3, 4])) dNil)))
    (dRet (dTup (zf (dOp zs6 (dOp dAdd (dCB zr5 (zf (ze 2) dNil)) (dCB zpl (zf (ze 2) dNil))) (dC (.int 2))) (zf (dOp zs6 (dOp dAdd (dCB zr5 (zf (ze 1) dNil)) (dCB zpl (zf (ze 1) dNil))) (dC (.int 2))) dNil)))))
theorem zrs : ∀ ds G Q, zdi ds G Q → ds.length = 1 := fun ds G Q ⟨_, e, _⟩ => by rw [e]; rfl
theorem zsc : ∀ ds G Q, zdi ds G Q → znk { nx := fun _ G' => Q .non G', rt := Q } (zbj zho ds) G := fun ds G Q h => by
  obtain ⟨b, rfl, ne, hl, q⟩ := h
  simp_arith only [znk, zho]
  refine zg0 (xs := b) (f := e2) (fun c => .int c.2) (by omega) (fun R r => by simp_arith only [zx, eT]; exact r) (fun c _ G1 A k => by simp_arith only [e2]; exact k) fun w hw => ?_
  simp_arith only [zg, zaz hw, DO.tree]
  refine zg0 (xs := b) (f := e2) (fun c => .int c.1) (by omega) (fun R r => by simp_arith only [zx, eT]; exact r) (fun c _ G1 A k => by simp_arith only [e2]; exact k) fun w2 hw2 => ?_
  simp_arith only [zg, zaz hw2, DO.tree]
  rw [show (D.lst (b.map fun c => D.int c.1)) = eL .int (xsB b) by unfold eL xsB; rw [List.map_map]; rfl, show (D.lst (b.map fun c => D.int c.2)) = eL .int (ysB b) by unfold eL ysB; rw [List.map_map]; rfl]
  refine zj2 (zqy ne) (zhn (zqy ne) ?_)
  simp_arith only [true_and]
  refine ⟨⟨by decide, by decide⟩, ?_⟩
  refine zj2 (zrj ne) ?_
  refine zhn (zrj ne) ?_
  simp_arith only [true_and]
  exact ⟨⟨by decide, by decide⟩, q⟩
def szB (steps : List Int) (n : Int) : Int := 1 + ((steps.filter fun s => decide (s ≤ n)).length : Int)
def zc2 : DRn := fun ds G Q => ∃ (n : Int) (steps : List Int), ds = [.int n, eT .int steps] ∧ steps.length ≤ 90 ∧ Q (.int (szB steps n)) G
abbrev zha : List Str := ["many", "steps", "step"]
def zkn : DTS :=
    (dRet (dCB zxb (zf (dC (.int 99)) (zf (dOp dAdd (dC (.int 1)) (dCB dLen (zf (dFz (dLc (zx (ze 1)) (zj 2) (zbl (dOp dGe (ze 0) (ze 2))) (ze 2) [2])) dNil))) dNil))))
theorem zpz : ∀ ds G Q, zc2 ds G Q → ds.length = 2 := fun ds G Q ⟨_, _, e, _⟩ => by rw [e]; rfl
theorem zp3 : ∀ ds G Q, zc2 ds G Q → zkn { nx := fun _ G' => Q .non G', rt := Q } (zbj zha ds) G := fun ds G Q h => by
  obtain ⟨n, steps, rfl, hl, q⟩ := h
  simp_arith only [zkn, zha]
  refine zfi (xs := steps) (f := .int) (fun s => decide (s ≤ n)) .int (by omega) (fun R r => by simp_arith only [zx, eT]; exact r) (fun s _ G1 A B ka kb => ?_) fun w hw => ?_
  · simp_arith only [true_and]
    by_cases c : s ≤ n
    · rw [if_pos c]
      exact ka (decide_eq_true c)
    · rw [if_neg c]
      exact kb (decide_eq_false c)
  · have hf := List.length_filter_le (fun s => decide (s ≤ n)) steps
    unfold szB at q
    generalize steps.filter (fun s => decide (s ≤ n)) = L at hf q ⊢
    simp_arith only [zg, zaz hw, DO.tree]
    rw [zeu (ds := L.map .int) rfl, List.length_map]
    simp_arith only [true_and]
    unfold zxb d2
    dsimp only
    rw [if_pos (by omega)]
    exact q
end M
namespace M
open PySem PySem.Spec PyProof.Rows L2 DL
variable [CA]
section
variable {α : Type} {k : α → NestedKey} {e : α → D}
theorem zss (h : ∀ a, D.key (e a) = some (k a)) : ∀ xs : List α, D.keys (xs.map e) = some (xs.map k)
  | [] => rfl
  | x :: xs => by
    show (match D.key (e x), D.keys (xs.map e) with | some k, some ks => some (k :: ks) | _, _ => none) = _
    rw [zss h xs, h x]
    rfl
theorem zv7 {B : Nat} (h : ∀ a, (k a).depth ≤ B) : ∀ xs : List α, NestedKey.depthAll (xs.map k) ≤ B
  | [] => Nat.zero_le _
  | x :: xs => by
    show max (NestedKey.depth (k x)) (NestedKey.depthAll (xs.map k)) ≤ B
    have h1 := h x
    have h2 := zv7 h xs
    omega
theorem zym (h : ∀ a, nkD (k a) = e a) : ∀ xs : List α, nkDs (xs.map k) = xs.map e
  | [] => rfl
  | x :: xs => by
    show nkD (k x) :: nkDs (xs.map k) = _
    rw [zym h xs, h x]
    rfl
theorem zw6 (inj : ∀ {a b}, k a = k b ↔ a = b) (key : ∀ a, D.key (e a) = some (k a)) (nk : ∀ a, nkD (k a) = e a) {B : Nat} (dep : ∀ a, (k a).depth ≤ B) (hB : B + 1 ≤ 8) : TKey (fun xs : List α => NestedKey.tup (xs.map k)) (eT e) where
  inj := fun {a b} => ⟨fun h => zn5 (fun h => inj.mp h) (by injection h), fun h => by rw [h]⟩
  shp := fun _ => ⟨_, rfl⟩
  key := fun xs => by
    show (D.keys (xs.map e)).map NestedKey.tup = _
    rw [zss key]; rfl
  dep := fun xs => by
    show NestedKey.depthAll (xs.map k) + 1 ≤ 8
    have := zv7 dep xs
    omega
  nk := fun xs => by
    show D.nd .tup (nkDs (xs.map k)) = _
    rw [zym nk]; rfl
end
def kC (v : Bl) : NestedKey := .tup (v.map DL.k2)
theorem dep2 (p : Int × Int) : (DL.k2 p).depth ≤ 1 := by simp [DL.k2, NestedKey.depth, NestedKey.depthAll]
theorem tkC : TKey kC eC := zw6 (k := DL.k2) (e := e2) DL.zv5 DL.zv9 DL.zwc dep2 (by decide)
/-- {key: True for ..} -/
theorem zus {α κ : Type} [DecidableEq κ] {k : κ → NestedKey} {e : κ → D} (T : TKey k e) {eα : α → D} {f : α → κ} {sl : List α} {G : DHp} {Q : DVK} {wi : DTI} {g : DTG} {te : DTE} {own : List Nat} {η : DSt} (hl : sl.length ≤ 1000000)
    (hw : ∀ R, R (sl.map eα) always G → wi η G R) (hb : ∀ s ∈ sl, ∀ (G1 : DHp) (A : DVK), A (e (f s)) G1 → g (eα s) (zc3 η own) G1 fun η2 G2 => te η2 G2 A)
    (q : ∀ p, G p = none → ∀ kvs : List (κ × Bool), (kvs.map (·.1)).Nodup → (∀ x, x ∈ kvs.map (·.1) ↔ x ∈ sl.map f) → kvs.length ≤ sl.length → Q (.ref p) (up G p (.dN (enc k .bl kvs)))) : dDc (.dN []) wi g dYes te (dC (.bl true)) own η G Q := by
  unfold dDc
  refine hw _ ?_
  intro p hp
  refine ⟨fun i G' => ∃ kvs : List (κ × Bool), G' = up G p (.dN (enc k .bl kvs)) ∧ kvs.length ≤ i ∧ (kvs.map (·.1)).Nodup ∧ (∀ x, x ∈ kvs.map (·.1) ↔ x ∈ (sl.take i).map f), ⟨[], rfl, Nat.le_refl _, List.nodup_nil, by simp⟩, ?_, ?_, ?_⟩
  · rintro i G' ⟨kvs, rfl, _⟩
    exact ⟨trivial, zjd zg⟩
  · rintro i d G' hd ⟨kvs, rfl, hk, nd, hm⟩
    obtain ⟨s, hs, rfl⟩ := zcn hd
    have hi := (List.getElem?_eq_some_iff.mp hs).1
    have := hb s (List.mem_of_getElem? hs) (up G p (.dN (enc k .bl kvs))) (fun y G4 => (∀ xs, G4 p ≠ some (.lst xs)) ∧ dSet (.ref p) y (.bl true) G4 fun G' => ∃ kvs : List (κ × Bool), G' = up G p (.dN (enc k .bl kvs)) ∧ kvs.length ≤ i + 1 ∧ (kvs.map (·.1)).Nodup ∧ (∀ x, x ∈ kvs.map (·.1) ↔ x ∈ (sl.take (i + 1)).map f)) ?_
    · simpa only [dYes, dC, if_true] using this
    · refine ⟨zjd zg, zqm (f := D.bl) (b := true) T zg (zax (by omega)) ?_⟩
      rw [zfl]
      have hlp := zj7 kvs (f s) true
      refine ⟨_, rfl, by omega, zjl _ _ _ nd, fun x => ?_⟩
      rw [zng, hm, zbt hs, List.map_append, List.mem_append, List.map_singleton, List.mem_singleton]
  · rintro G' ⟨kvs, rfl, hk, nd, hm⟩
    rw [List.length_map, List.take_length] at hm
    rw [List.length_map] at hk
    exact q p hp kvs nd hm hk
/-- a dict of cells that is changed no more -/
abbrev eDk (kvs : List (Ce × Bool)) : D := eD DL.k2 .bl kvs
theorem zrr {κ : Type} [DecidableEq κ] {k : κ → NestedKey} {e : κ → D} (T : TKey k e) {kvs : List (κ × Bool)} {neg : Bool} {a : κ} {G : DHp} {Q : DVK} (b : Bool) (hb : b = true ↔ a ∈ kvs.map (·.1)) (q : Q (.bl (neg != b)) G) : dIn neg (e a) (eD k .bl kvs) G Q := by
  refine zmv T (k := k) (e := e) (f := D.bl) (kvs := kvs) (neg := neg) (a := a) (zsw _ _ _ _) ?_
  rw [show (aget kvs a).isSome = b from Bool.eq_iff_iff.mpr ((zeg kvs a).trans hb.symm)]
  exact q
theorem zgm {xs : Bl} {x : Ce} : x ∈ srtT e2 xs ↔ x ∈ xs := (zbh e2 xs).mem_iff
theorem zhw {xs : Bl} : (srtT e2 xs).length = xs.length := (zbh e2 xs).length_eq
structure RwO (rows : List (List Int)) : Prop where
  len : rows.length ≤ 30
  row : ∀ r ∈ rows, r.length ≤ 30
theorem RwO.cells {rows : List (List Int)} (h : RwO rows) (l : Int) : (brU rows l).length ≤ 900 := by
  have := zj8 rows l h.len h.row rows.length
  rwa [show rows.length = (rows.mapIdx (zco l)).length by rw [List.length_mapIdx], List.take_length] at this
def zan : DRn := fun ds G Q => ∃ (rows : List (List Int)) (l s : Int), ds = [rwD rows, .int l, .int s] ∧ RwO rows ∧ Q (eL e2 (srtT e2 (brU rows (l + s)))) G
abbrev zfm : List Str := ["rows", "level", "slack"]
def zg6 : DTS :=
    (dRet (dCB zas (zf (ze 0) (zf (dOp dAdd (ze 1) (ze 2)) dNil))))
theorem zl6 : ∀ ds G Q, zan ds G Q → ds.length = 3 := fun ds G Q ⟨_, _, _, e, _⟩ => by rw [e]; rfl
theorem zly : ∀ ds G Q, zan ds G Q → zg6 { nx := fun _ G' => Q .non G', rt := Q } (zbj zfm ds) G := fun ds G Q h => by
  obtain ⟨rows, l, s, rfl, ho, q⟩ := h
  simp_arith only [zg6, zfm]
  exact ⟨rows, l + s, rfl, ho.len, ho.row, q⟩
def z8 : DRn := fun ds G Q => ∃ (rows : List (List Int)) (l s : Int), ds = [rwD rows, .int l, .int s] ∧ RwO rows ∧ Q (eL e2 (srtT e2 (brU rows (l - s)))) G
abbrev zew : List Str := ["rows", "level", "slack"]
def zgx : DTS :=
    (dRet (dCB zas (zf (ze 0) (zf (dOp dSub (ze 1) (ze 2)) dNil))))
theorem zks : ∀ ds G Q, z8 ds G Q → ds.length = 3 := fun ds G Q ⟨_, _, _, e, _⟩ => by rw [e]; rfl
theorem zlb : ∀ ds G Q, z8 ds G Q → zgx { nx := fun _ G' => Q .non G', rt := Q } (zbj zew ds) G := fun ds G Q h => by
  obtain ⟨rows, l, s, rfl, ho, q⟩ := h
  simp_arith only [zgx, zew]
  exact ⟨rows, l - s, rfl, ho.len, ho.row, q⟩
theorem zji {S : Bl} {b : Bl} (h : b ∈ blkC S) : b.length ≤ S.length := zla ((zbg S).nd b h) fun y hy => ((zbg S).cov y).mpr ⟨b, h, hy⟩
theorem zhb (S : Bl) : (blkC S).length ≤ S.length := by
  have P := zbg S
  have h : ∀ b ∈ blkC S, ∃ x, x ∈ b := fun b hb => List.exists_mem_of_ne_nil _ (P.ne b hb)
  obtain ⟨I, h1, h2, h3⟩ : ∃ I : Bl, (∀ x ∈ I, ∃ b ∈ blkC S, x ∈ b) ∧ I.Nodup ∧ I.length = (blkC S).length := by
    have ap := P.apart
    generalize blkC S = L at ap h
    induction L with
    | nil => exact ⟨[], fun x hx => (by cases hx), List.nodup_nil, rfl⟩
    | cons b L ih =>
      obtain ⟨a1, a2⟩ := List.pairwise_cons.mp ap
      obtain ⟨I, g1, g2, g3⟩ := ih a2 fun c hc => h c (List.mem_cons_of_mem _ hc)
      obtain ⟨x, hx⟩ := h b List.mem_cons_self
      refine ⟨x :: I, fun y hy => ?_, List.nodup_cons.mpr ⟨fun hm => ?_, g2⟩, by rw [List.length_cons, List.length_cons, g3]⟩
      · rcases List.mem_cons.mp hy with e | hy
        · rw [e]; exact ⟨b, List.mem_cons_self, hx⟩
        · obtain ⟨c, hc, hyc⟩ := g1 y hy
          exact ⟨c, List.mem_cons_of_mem _ hc, hyc⟩
      · obtain ⟨c, hc, hxc⟩ := g1 x hm
        exact a1 c hc x hx x hxc (ze0 x)
  rw [← h3]
  exact zla h2 fun x hx => by
    obtain ⟨b, hb, hxb⟩ := h1 x hx
    exact (P.cov x).mpr ⟨b, hb, hxb⟩
theorem ze4 {cells : Bl} {G : DHp} {Q : DVK} (hl : cells.length ≤ 1000) (q : Q (eL eC (blkC cells)) G) : za3 [eL e2 cells] G Q :=
  ⟨cells, rfl, hl, fun L P => by rw [zqq P]; exact q⟩
noncomputable def zdm (S M : Bl) : List Bl := (blkC M).filter fun b => b.all fun c => decide (c ∈ S)
def zal : DRn := fun ds G Q => ∃ (rows : List (List Int)) (l s : Int), ds = [rwD rows, .int l, .int s] ∧ RwO rows ∧ Q (eL eC (zdm (brU rows (l + s)) (brU rows (l - s)))) G
abbrev zdv : List Str := ["rows", "level", "slack", "known", "cell", "blob"]
def zg2 : DTS :=
    (dSeq (dAsg (dFz (dDc (.dN []) (zx (dCB zan (zf (ze 0) (zf (ze 1) (zf (ze 2) dNil))))) (zj 4) dYes (ze 4) (dC (.bl true)) [4])) (zj 3))
    (dRet (dFz (dLc (zx (dCB za3 (zf (dCB z8 (zf (ze 0) (zf (ze 1) (zf (ze 2) dNil)))) dNil))) (zj 5) (zbl (dCB dAll (zf (dFz (dLc (zx (ze 5)) (zj 4) dYes (dOp (dIn false) (ze 4) (ze 3)) [4])) dNil))) (ze 5) [5]))))
theorem zl9 : ∀ ds G Q, zal ds G Q → ds.length = 3 := fun ds G Q ⟨_, _, _, e, _⟩ => by rw [e]; rfl
theorem zma : ∀ ds G Q, zal ds G Q → zg2 { nx := fun _ G' => Q .non G', rt := Q } (zbj zdv ds) G := fun ds G Q h => by
  obtain ⟨rows, l, s, rfl, ho, q⟩ := h
  have h1 := ho.cells (l + s)
  have h2 := ho.cells (l - s)
  simp_arith only [zg2, zdv]
  refine ziy (eα := e2) (f := id) (sl := srtT e2 (brU rows (l + s))) (by rw [zhw]; omega) (fun R r => ?_) (fun x hx G1 A aa => by simp_arith only [true_and]; exact aa) fun p hp kvs nd hm hk => ?_
  · simp_arith only [zx]
    exact ⟨rows, l, s, rfl, ho, r⟩
  rw [List.map_id] at hm
  have hm : ∀ x, x ∈ kvs.map (·.1) ↔ x ∈ brU rows (l + s) := fun x => (hm x).trans zgm
  simp_arith only [zg, zaz hp, zi8]
  refine zfi (xs := blkC (brU rows (l - s))) (f := eC) (fun b => b.all fun c => decide (c ∈ brU rows (l + s))) eC (by have := zhb (brU rows (l - s)); omega) (fun R r => ?_) (fun b hb G1 A B ka kb => ?_) fun w hw => ?_
  · simp_arith only [zx]
    refine ⟨rows, l, s, rfl, ho, ?_⟩
    refine ze4 (by rw [zhw]; omega) ?_
    rw [ze9 (T := brU rows (l - s)) fun x => zgm]
    exact r
  · have hbl := zji hb
    simp_arith only [true_and]
    refine zg0 (xs := b) (f := e2) (fun c => .bl (decide (c ∈ brU rows (l + s)))) (by omega) (fun R r => by simp_arith only [zx]; exact r) (fun c hc G2 A2 k2 => ?_) fun w2 hw2 => ?_
    · simp_arith only [true_and]
      refine zrr (neg := false) tk2 (decide (c ∈ brU rows (l + s))) (by rw [decide_eq_true_eq]; exact (hm c).symm) ?_
      rw [Bool.false_bne]
      exact k2
    · simp_arith only [zg, zaz hw2, DO.tree]
      refine zsm (xs := b) (b := fun c => decide (c ∈ brU rows (l + s))) ?_
      cases e : b.all fun c => decide (c ∈ brU rows (l + s)) with
      | true => simp_arith only [true_and]; exact ka e
      | false => simp_arith only [true_and]; exact kb e
  · simp_arith only [zg, zaz hw, DO.tree]
    exact q
def ptB (steps : List Int) (b : Bl) : Int × Int × Int := ((midB b).1, (midB b).2, szB steps b.length)
def zcj : DRn := fun ds G Q => ∃ (rows : List (List Int)) (l s : Int) (steps : List Int), ds = [rwD rows, .int l, .int s, eT .int steps] ∧ RwO rows ∧ steps.length ≤ 90 ∧ Q (eT e3 (srtT e3 ((zdm (brU rows (l + s)) (brU rows (l - s))).map (ptB steps)))) G
abbrev zd2 : List Str := ["rows", "level", "slack", "steps", "blob"]
def zge : DTS :=
    (dRet (dCB zk7 (zf (dFz (dCB zd3 (zf (dFz (dLc (zx (dCB zal (zf (ze 0) (zf (ze 1) (zf (ze 2) dNil))))) (zj 4) dYes (dTup (ztj (dCB zdi (zf (ze 4) dNil)) (zf (dCB zc2 (zf (dCB dLen (zf (ze 4) dNil)) (zf (ze 3) dNil))) dNil))) [4])) dNil))) dNil)))
theorem zk4 : ∀ ds G Q, zcj ds G Q → ds.length = 4 := fun ds G Q ⟨_, _, _, _, e, _⟩ => by rw [e]; rfl
theorem zf9 {S M : Bl} {b : Bl} : b ∈ zdm S M ↔ b ∈ blkC M ∧ ∀ c ∈ b, c ∈ S := by
  unfold zdm
  rw [List.mem_filter, List.all_eq_true]
  exact ⟨fun ⟨h, g⟩ => ⟨h, fun c hc => of_decide_eq_true (g c hc)⟩, fun ⟨h, g⟩ => ⟨h, fun c hc => decide_eq_true (g c hc)⟩⟩
theorem zik (S M : Bl) : (zdm S M).length ≤ M.length := Nat.le_trans (List.length_filter_le _ _) (zhb M)
theorem zkv : ∀ ds G Q, zcj ds G Q → zge { nx := fun _ G' => Q .non G', rt := Q } (zbj zd2 ds) G := fun ds G Q h => by
  obtain ⟨rows, l, s, steps, rfl, ho, hst, q⟩ := h
  have h2 := ho.cells (l - s)
  simp_arith only [zge, zd2]
  refine zg0 (xs := zdm (brU rows (l + s)) (brU rows (l - s))) (f := eC) (fun b => e3 (ptB steps b)) (by have := zik (brU rows (l + s)) (brU rows (l - s)); omega) (fun R r => ?_) (fun b hb G1 A k => ?_) fun w hw => ?_
  · simp_arith only [zx]
    exact ⟨rows, l, s, rfl, ho, r⟩
  · have hb1 := (zf9.mp hb).1
    have hbl := zji hb1
    simp_arith only [true_and]
    refine ⟨b, rfl, (zbg _).ne b hb1, by omega, ?_⟩
    simp_arith only [e2]
    rw [zeu (ds := b.map e2) rfl]
    refine ⟨(b.map e2).length, steps, rfl, hst, ?_⟩
    rw [List.length_map]
    exact k
  · simp_arith only [zg, zaz hw, DO.tree]
    refine zb7 (f := e3) (xs := (zdm (brU rows (l + s)) (brU rows (l - s))).map (ptB steps)) (by show some _ = some _; rw [List.map_map]; rfl) zkb al3 (st3 _) (fun a => Nat.le_trans (zj6 a) (by decide)) fun w5 hw5 => ?_
    simp_arith only [zg, zaz hw5, DO.tree]
    rw [zn8 (ds := (srtT e3 ((zdm (brU rows (l + s)) (brU rows (l - s))).map (ptB steps))).map e3) rfl]
    exact q
noncomputable def zd7 (S M : Bl) : List Bl := (blkC M).filter fun b => decide (b ∉ zdm S M)
def z3 : DRn := fun ds G Q => ∃ (rows : List (List Int)) (l s : Int), ds = [rwD rows, .int l, .int s] ∧ RwO rows ∧ Q (eL eC (zd7 (brU rows (l + s)) (brU rows (l - s)))) G
abbrev zb9 : List Str := ["rows", "level", "slack", "sure", "blob"]
def zes : DTS :=
    (dSeq (dAsg (dFz (dDc (.dN []) (zx (dCB zal (zf (ze 0) (zf (ze 1) (zf (ze 2) dNil))))) (zj 4) dYes (ze 4) (dC (.bl true)) [4])) (zj 3))
    (dRet (dFz (dLc (zx (dCB za3 (zf (dCB z8 (zf (ze 0) (zf (ze 1) (zf (ze 2) dNil)))) dNil))) (zj 4) (zbl (dOp (dIn true) (ze 4) (ze 3))) (ze 4) [4]))))
theorem zii : ∀ ds G Q, z3 ds G Q → ds.length = 3 := fun ds G Q ⟨_, _, _, e, _⟩ => by rw [e]; rfl
theorem zid : ∀ ds G Q, z3 ds G Q → zes { nx := fun _ G' => Q .non G', rt := Q } (zbj zb9 ds) G := fun ds G Q h => by
  obtain ⟨rows, l, s, rfl, ho, q⟩ := h
  have h2 := ho.cells (l - s)
  simp_arith only [zes, zb9]
  refine zus tkC (eα := eC) (f := id) (sl := zdm (brU rows (l + s)) (brU rows (l - s))) (by have := zik (brU rows (l + s)) (brU rows (l - s)); omega) (fun R r => ?_) (fun x hx G1 A aa => by simp_arith only [true_and]; exact aa) fun p hp kvs nd hm hk => ?_
  · simp_arith only [zx]
    exact ⟨rows, l, s, rfl, ho, r⟩
  rw [List.map_id] at hm
  simp_arith only [zg, zaz hp, zi8]
  refine zfi (xs := blkC (brU rows (l - s))) (f := eC) (fun b => decide (b ∉ zdm (brU rows (l + s)) (brU rows (l - s)))) eC (by have := zhb (brU rows (l - s)); omega) (fun R r => ?_) (fun b hb G1 A B ka kb => ?_) fun w hw => ?_
  · simp_arith only [zx]
    refine ⟨rows, l, s, rfl, ho, ?_⟩
    refine ze4 (by rw [zhw]; omega) ?_
    rw [ze9 (T := brU rows (l - s)) fun x => zgm]
    exact r
  · simp_arith only [true_and]
    refine zrr (neg := true) tkC (decide (b ∈ zdm (brU rows (l + s)) (brU rows (l - s)))) (by rw [decide_eq_true_eq]; exact (hm b).symm) ?_
    by_cases e : b ∈ zdm (brU rows (l + s)) (brU rows (l - s))
    · rw [decide_eq_true e]
      simp_arith only [true_and]
      exact kb (decide_eq_false fun h => h e)
    · rw [decide_eq_false e]
      simp_arith only [true_and]
      exact ka (decide_eq_true e)
  · simp_arith only [zg, zaz hw, DO.tree]
    exact q
end M
namespace M
open PySem PySem.Spec PyProof.Rows L2 DL
variable [CA]
def zun (xs : List Int) : Bool := decide (mxL xs - mnL xs ≤ 1)
def zmf (b : Bl) : Bool := b.isEmpty || (zun (ysB b) && zun (xsB b))
theorem zrf {xs : List Int} (h : zun xs = true) {a b : Int} (ha : a ∈ xs) (hb : b ∈ xs) : -1 ≤ a - b ∧ a - b ≤ 1 := by
  have ne : xs ≠ [] := fun e => by rw [e] at ha; cases ha
  have h1 := (zj1 ne).2
  have h2 := (zrl ne).2
  have := of_decide_eq_true h
  have a1 := h1 a ha
  have a2 := h2 a ha
  have b1 := h1 b hb
  have b2 := h2 b hb
  omega
theorem ztr {b : Bl} (h : zmf b = true) {x y : Ce} (hx : x ∈ b) (hy : y ∈ b) : tch x y := by
  unfold zmf at h
  rw [Bool.or_eq_true, Bool.and_eq_true] at h
  rcases h with h | ⟨h1, h2⟩
  · cases b with
    | nil => cases hx
    | cons _ _ => cases h
  · exact ⟨zrf h2 (List.mem_map.mpr ⟨x, hx, rfl⟩) (List.mem_map.mpr ⟨y, hy, rfl⟩), zrf h1 (List.mem_map.mpr ⟨x, hx, rfl⟩) (List.mem_map.mpr ⟨y, hy, rfl⟩)⟩
def zcw : DRn := fun ds G Q => ∃ b : Bl, ds = [eL e2 b] ∧ b.length ≤ 1000 ∧ Q (.bl (zmf b)) G
abbrev ze7 : List Str := ["cells", "rows", "columns", "x", "y"]
def zi5 : DTS :=
    (dSeq (dPar 1 2 (zf (dFz (dLc (zx (ze 0)) (zfd (za2 (zj 3) (za2 (zj 4) zfa)) 2) dYes (ze 4) [3, 4])) (zf (dFz (dLc (zx (ze 0)) (zfd (za2 (zj 3) (za2 (zj 4) zfa)) 2) dYes (ze 3) [3, 4])) dNil)))
    (dRet (dOrV (dOp dEq (ze 0) (zgo dNil)) (zkx (dOp dLe (dOp dSub (dCB zpl (zf (ze 1) dNil)) (dCB zr5 (zf (ze 1) dNil))) (dC (.int 1))) (dOp dLe (dOp dSub (dCB zpl (zf (ze 2) dNil)) (dCB zr5 (zf (ze 2) dNil))) (dC (.int 1)))))))
theorem zpd : ∀ ds G Q, zcw ds G Q → ds.length = 1 := fun ds G Q ⟨_, e, _⟩ => by rw [e]; rfl
theorem zo8 (b : Bl) : ∀ d ∈ b.map e2, (py d).depth ≤ 60 := fun z hz => by
  obtain ⟨u, _, rfl⟩ := List.mem_map.mp hz
  exact Nat.le_trans (zcd u) (by decide)
theorem zqd {x : D} {xs : List D} {G : DHp} {Q : DVK} (h : der x G = .nd .lst xs) (hc : cleans xs = true) (hd : ∀ d ∈ xs, (py d).depth ≤ 60) (q : Q (.bl xs.isEmpty) G) : dEq x (.nd .lst []) G Q := by
  refine zvy (by rw [h]; rw [zah]; exact hc) rfl (by rw [h]; exact Nat.le_trans (zkh hd) (by decide)) (by show (py (.nd .lst [])).depth ≤ 64; rw [py, pys]; decide) _ ?_ q
  rw [h]
  cases xs with
  | nil => simp [der]
  | cons d ds => simp [der]
theorem zpj : ∀ ds G Q, zcw ds G Q → zi5 { nx := fun _ G' => Q .non G', rt := Q } (zbj ze7 ds) G := fun ds G Q h => by
  obtain ⟨b, rfl, hl, q⟩ := h
  simp_arith only [zi5, ze7]
  refine zg0 (xs := b) (f := e2) (fun c => .int c.2) (by omega) (fun R r => by simp_arith only [zx, eL]; exact r) (fun c _ G1 A k => by simp_arith only [e2]; exact k) fun w hw => ?_
  simp_arith only [zg, zaz hw, DO.tree]
  refine zg0 (xs := b) (f := e2) (fun c => .int c.1) (by omega) (fun R r => by simp_arith only [zx, eL]; exact r) (fun c _ G1 A k => by simp_arith only [e2]; exact k) fun w2 hw2 => ?_
  simp_arith only [zg, zaz hw2, DO.tree]
  rw [show (D.lst (b.map fun c => D.int c.1)) = eL .int (xsB b) by unfold eL xsB; rw [List.map_map]; rfl, show (D.lst (b.map fun c => D.int c.2)) = eL .int (ysB b) by unfold eL ysB; rw [List.map_map]; rfl]
  refine zqd (x := eL e2 b) (xs := b.map e2) rfl (zcb zbp _) (zo8 b) ?_
  unfold zmf at q
  rw [List.isEmpty_map]
  cases e : b.isEmpty with
  | true =>
    rw [e] at q
    simp_arith only [true_and]
    exact q
  | false =>
    have ne : b ≠ [] := fun h => by rw [h] at e; cases e
    rw [e, Bool.false_or] at q
    simp_arith only [true_and]
    refine zhn (zrj ne) (zj2 (zrj ne) ?_)
    simp_arith only [true_and]
    unfold zun at q
    by_cases c : mxL (ysB b) - mnL (ysB b) ≤ 1
    · rw [decide_eq_true c, Bool.true_and] at q
      rw [if_pos c]
      refine zhn (zqy ne) (zj2 (zqy ne) ?_)
      simp_arith only [true_and]
      exact q
    · rw [decide_eq_false c, Bool.false_and] at q
      rw [if_neg c]
      exact q
/-- at least one cell, fewer than n .. -/
def zak (n : Nat) : DRn := fun ds G Q => ∃ cells : Bl, (ds = [eL e2 cells] ∨ ds = [eC cells]) ∧ cells.length < n ∧ cells.length ≤ 100 ∧ Q (.int (al cells : Int)) G
def zbi (n : Nat) : DRn := fun ds G Q => ∃ cells : Bl, ds = [eC cells] ∧ cells ≠ [] ∧ cells.length ≤ n ∧ cells.length ≤ 100 ∧ Q (.int (al cells : Int)) G
abbrev zbb : List Str := ["cells", "known", "rows", "many", "first", "without", "far", "cell", "late"]
def zc0 (R : DRn) : DTS :=
    (dSeq (dAsg (dFz (dDc (.dN []) (zx (ze 0)) (zj 7) dYes (ze 7) (dC (.bl true)) [7])) (zj 1))
    (dSeq (dAsg (dLc (zx (ze 0)) (zj 7) dYes (dTup (zf (dCB dLen (zf (dFz (dLc (zx (dCB zac (zf (ze 7) dNil))) (zj 8) (zbl (dOp (dIn false) (ze 8) (ze 1))) (ze 8) [8])) dNil)) (zf (ze 7) dNil))) [7]) (zj 2))
    (dFrz 2 (dSeq (dAsg (dCB zwt (zf (ze 2) dNil)) (zfd (za2 (zj 3) (za2 (zj 4) zfa)) 2))
    (dSeq (dAsg (dLc (zx (ze 0)) (zj 7) (zbl (dOp dNe (ze 7) (ze 4))) (ze 7) [7]) (zj 5))
    (dFrz 5 (dSeq (dAsg (dLc (zx (ze 5)) (zj 7) (zbl (dOp (dIn true) (ze 7) (dCB zac (zf (ze 4) dNil)))) (ze 7) [7]) (zj 6))
    (dFrz 6 (dRet (dCB zw4 (zf (dCB R (zf (ze 5) dNil)) (zf (dOp dAdd (dC (.int 1)) (dCB R (zf (ze 6) dNil))) dNil))))))))))))
theorem zns : ∀ ds G Q, zak 0 ds G Q → False := fun ds G Q ⟨_, _, h, _⟩ => Nat.not_lt_zero _ h
theorem zhq (n : Nat) : ∀ ds G Q, zak n ds G Q → ds.length = 1 := fun ds G Q ⟨_, e, _⟩ => by rcases e with e | e <;> (rw [e]; rfl)
theorem zfx (n : Nat) : ∀ ds G Q, zbi n ds G Q → ds.length = 1 := fun ds G Q ⟨_, e, _⟩ => by rw [e]; rfl
def nrD (n : Int) (c : Ce) : D := .nd .tup [.int n, e2 c]
theorem zvi (z : Int × Ce) : zah (nrD z.1 z.2) = true := by
  show cleans [.int z.1, e2 z.2] = true
  simp [cleans, zah, e2]
theorem zt6 (a b : Int × Ce) : PySem.W.alike (py (nrD a.1 a.2)) (py (nrD b.1 b.2)) = true := by simp [nrD, e2, py, pys, PySem.W.alike, PySem.W.alikeAll]
theorem zvl (z : Int × Ce) : (py (nrD z.1 z.2)).depth ≤ 60 := by
  have : (py (nrD z.1 z.2)).depth ≤ 2 := by simp [nrD, e2, py, pys, PyData.depth, PyData.depthAll]
  omega
/-- the greatest of some rows is one of them -/
theorem zu1 {zs : List (Int × Ce)} (ne : zs ≠ []) {G : DHp} {Q : DVK} (q : ∀ z ∈ zs, Q (nrD z.1 z.2) G) : zwt [.nd .lst (zs.map fun z => nrD z.1 z.2)] G Q := by
  refine ⟨zs.map fun z => nrD z.1 z.2, rfl, fun e => ne (List.map_eq_nil_iff.mp e), cleans_plain (zcb zvi zs), ⟨fun x hx y hy => ?_, fun x hx => ?_⟩, fun d hd => ?_, fun y hy => ?_⟩
  · rw [List.map_map] at hx hy
    obtain ⟨a, _, rfl⟩ := List.mem_map.mp hx
    obtain ⟨b, _, rfl⟩ := List.mem_map.mp hy
    exact zt6 a b
  · rw [List.map_map] at hx
    obtain ⟨a, _, rfl⟩ := List.mem_map.mp hx
    show py (nrD a.1 a.2) ≠ .none
    unfold nrD
    rw [py]
    exact fun e => by cases e
  · obtain ⟨z, _, rfl⟩ := List.mem_map.mp hd
    exact zvl z
  · obtain ⟨z, hz, rfl⟩ := List.mem_map.mp hy
    exact q z hz
theorem zp4 {neg : Bool} {c : Ce} {L : Bl} {G : DHp} {Q : DVK} (q : Q (.bl (neg != decide (c ∈ L))) G) : dIn neg (e2 c) (eL e2 L) G Q := by
  refine zwi (neg := neg) (x := e2 c) (ds := L.map e2) (.inl rfl) (zbp c) (zcb zbp _) (Nat.le_trans (zcd c) (by decide)) (decide (c ∈ L)) ?_ q
  rw [decide_eq_true_eq]
  constructor
  · intro h
    exact List.mem_map.mpr ⟨c, h, rfl⟩
  · intro h
    obtain ⟨u, hu, e⟩ := List.mem_map.mp h
    rw [← zon.mp e]
    exact hu
theorem zfq (n : Nat) : ∀ ds G Q, zbi n ds G Q → zc0 (zak n) { nx := fun _ G' => Q .non G', rt := Q } (zbj zbb ds) G := fun ds G Q h => by
  obtain ⟨cells, rfl, ne, hn, hl, q⟩ := h
  simp_arith only [zc0, zbb]
  refine ziy (eα := e2) (f := id) (sl := cells) (by omega) (fun R r => by simp_arith only [zx, eT]; exact r) (fun x hx G1 A aa => by simp_arith only [true_and]; exact aa) fun p hp kvs nd hm hk => ?_
  simp_arith only [zg, zaz hp, zi8]
  refine zg0 (xs := cells) (f := e2) (fun c => nrD ((nxtL c).filter fun z => decide (z ∈ kvs.map (·.1))).length c) (by omega) (fun R r => by simp_arith only [zx, eT]; exact r) (fun c hc G1 A k => ?_) fun w hw => ?_
  · simp_arith only [true_and]
    refine zfi (xs := nxtL c) (f := e2) (fun z => decide (z ∈ kvs.map (·.1))) e2 (by rw [zh5]; omega) (fun R r => by simp_arith only [zx]; exact ⟨c, rfl, r⟩) (fun z hz G2 A2 B2 ka kb => ?_) fun w2 hw2 => ?_
    · simp_arith only [true_and]
      refine zrr (neg := false) tk2 (decide (z ∈ kvs.map (·.1))) (by rw [decide_eq_true_eq]) ?_
      rw [Bool.false_bne]
      cases e : decide (z ∈ kvs.map (·.1)) with
      | true => simp_arith only [true_and]; exact ka e
      | false => simp_arith only [true_and]; exact kb e
    · simp_arith only [zg, zaz hw2, DO.tree]
      rw [zeu (ds := ((nxtL c).filter fun z => decide (z ∈ kvs.map (·.1))).map e2) rfl, List.length_map]
      exact k
  · simp_arith only [zg, zaz hw, DO.tree]
    rw [show (D.lst (cells.map fun c => nrD ((nxtL c).filter fun z => decide (z ∈ kvs.map (·.1))).length c)) = D.nd .lst ((cells.map fun c => ((((nxtL c).filter fun z => decide (z ∈ kvs.map (·.1))).length : Int), c)).map fun z => nrD z.1 z.2) by rw [List.map_map]; rfl]
    refine zu1 (fun e => ne (List.map_eq_nil_iff.mp e)) fun z hz => ?_
    obtain ⟨first, hf, rfl⟩ := List.mem_map.mp hz
    generalize D.nd .lst ((cells.map fun c => ((((nxtL c).filter fun z => decide (z ∈ kvs.map (·.1))).length : Int), c)).map fun z => nrD z.1 z.2) = rowsD
    unfold nrD
    simp_arith only [true_and]
    refine zfi (xs := cells) (f := e2) (fun c => decide (c ≠ first)) e2 (by omega) (fun R r => by simp_arith only [zx, eT]; exact r) (fun c hc G1 A B ka kb => ?_) fun w2 hw2 => ?_
    · simp_arith only [true_and]
      refine zya ?_
      by_cases e : c ≠ first
      · rw [decide_eq_true e]; simp_arith only [true_and]; exact ka (decide_eq_true e)
      · rw [decide_eq_false e]; simp_arith only [true_and]; exact kb (decide_eq_false e)
    · simp_arith only [zg, zaz hw2, DO.tree]
      have hlw : (cells.filter fun c => decide (c ≠ first)).length < cells.length := List.length_filter_lt_length_iff_exists.mpr ⟨first, hf, by simp⟩
      have hsp := zvk hf
      generalize hW : (cells.filter fun c => decide (c ≠ first)) = wo at hlw hsp ⊢
      refine zfi (xs := wo) (f := e2) (fun c => decide (c ∉ nxtL first)) e2 (by omega) (fun R r => by simp_arith only [zx, eL]; exact r) (fun c hc G1 A B ka kb => ?_) fun w3 hw3 => ?_
      · simp_arith only [true_and]
        refine ⟨first, rfl, ?_⟩
        refine zp4 (neg := true) ?_
        by_cases e : c ∈ nxtL first
        · rw [decide_eq_true e]; simp_arith only [true_and]; exact kb (decide_eq_false fun h => h e)
        · rw [decide_eq_false e]; simp_arith only [true_and]; exact ka (decide_eq_true e)
      · simp_arith only [zg, zaz hw3, DO.tree]
        have hlf := List.length_filter_le (fun c => decide (c ∉ nxtL first)) wo
        refine ⟨wo, .inl rfl, by omega, by omega, ?_⟩
        simp_arith only [true_and]
        refine ⟨wo.filter fun c => decide (c ∉ nxtL first), .inl rfl, by omega, by omega, ?_⟩
        simp_arith only [true_and]
        unfold zw4 d2
        dsimp only
        rw [show (if (1 : Int) + (al (wo.filter fun c => decide (c ∉ nxtL first)) : Int) > (al wo : Int) then (1 : Int) + (al (wo.filter fun c => decide (c ∉ nxtL first)) : Int) else (al wo : Int)) = (al cells : Int) by rw [hsp]; split <;> omega]
        exact q
end M
namespace M
open PySem PySem.Spec PyProof.Rows L2 DL
variable [CA]
def ah (G : DHp) (l w : Addr) (kvs : List (Ce × Bool)) (W : Bl) : DHp := up (up G l (.dN (enc DL.k2 .bl kvs))) w (.lst (W.map e2))
section
variable {G : DHp} {l w : Addr} {kvs kvs' : List (Ce × Bool)} {W W' : Bl}
theorem ah_l (h : l ≠ w) : ah G l w kvs W l = some (.dN (enc DL.k2 .bl kvs)) := by unfold ah; rw [zdy h, zg]
theorem ah_w : ah G l w kvs W w = some (.lst (W.map e2)) := by unfold ah; rw [zg]
theorem zy2 (h : l ≠ w) : up (ah G l w kvs W) l (.dN (enc DL.k2 .bl kvs')) = ah G l w kvs' W := by unfold ah; rw [zgr (Ne.symm h), zfl]
theorem zyr : up (ah G l w kvs W) w (.lst (W'.map e2)) = ah G l w kvs W' := by unfold ah; rw [zfl]
theorem ztg {p : Addr} {neg : Bool} {a : Ce} {Q : DVK} (h : G p = some (.dN (enc DL.k2 .bl kvs))) (q : Q (.bl (neg != decide (a ∈ kvs.map (·.1)))) G) : dIn neg (e2 a) (.ref p) G Q := by
  refine zmv tk2 (k := DL.k2) (e := e2) (f := D.bl) (kvs := kvs) (neg := neg) (a := a) (zul h) ?_
  rw [show (aget kvs a).isSome = decide (a ∈ kvs.map (·.1)) from Bool.eq_iff_iff.mpr ((zeg kvs a).trans (by rw [decide_eq_true_eq]))]
  exact q
theorem zru {Q : DVK} (q : ∀ p, G p = none → Q (.ref p) (up G p (.lst ((kvs.map (·.1)).map e2)))) : zqu [eDk kvs] G Q := by
  have hk : zsp (eDk kvs) G = some ((kvs.map (·.1)).map e2) := by
    unfold zsp
    rw [zsw]
    unfold enc
    show some (List.map (fun p => nkD p.1) (List.map (fun p => (DL.k2 p.1, D.bl p.2)) kvs)) = _
    rw [List.map_map, List.map_map]
    rfl
  unfold zqu d1
  dsimp only
  rw [hk]
  exact q
end
theorem zo0 {cells : Bl} {d : D} (hd : d = eL e2 cells ∨ d = eC cells) {G : DHp} {Q : DVK} (q : ∀ p, G p = none → Q (.ref p) (up G p (.lst ((srtT e2 cells).map e2)))) : zna [d] G Q := by
  rcases hd with rfl | rfl
  · exact .inl (zb7 (f := e2) (xs := cells) rfl zbp DL.al2 (DL.st2 _) (fun a => Nat.le_trans (zcd a) (by decide)) q)
  · refine .inr ?_
    show (_ ∧ _ ∧ _ ∧ _) ∧ ∀ p, G p = none → Q (.ref p) (up G p (.lst (srt (cells.map e2))))
    refine ⟨⟨cleans_plain (zcb zbp cells), ?_, DL.st2 _, fun d hd => ?_⟩, fun p hn => by rw [zte]; exact q p hn⟩
    · rw [List.map_map]; exact PySem.W.AllAlike.of DL.al2
    · obtain ⟨a, _, rfl⟩ := List.mem_map.mp hd; exact Nat.le_trans (zcd a) (by decide)
def bes (kvs : List (Ce × Bool)) (y : Ce) : Bl := (nxtL y).filter fun z => decide (z ∈ kvs.map (·.1))
theorem zlm {kvs : List (Ce × Bool)} {y z : Ce} : z ∈ bes kvs y ↔ (tch y z ∧ z ≠ y) ∧ z ∈ kvs.map (·.1) := by
  unfold bes
  rw [List.mem_filter, zi9, decide_eq_true_eq]
theorem zsn (kvs : List (Ce × Bool)) (y : Ce) : (bes kvs y).length ≤ 8 := Nat.le_trans (List.length_filter_le _ _) (by rw [zh5]; exact Nat.le_refl _)
theorem ztl (y : Ce) : (nxtL y).Nodup := by
  obtain ⟨a, b⟩ := y
  have e : nxtL (a, b) = [(a + -1, b + -1), (a + -1, b + 0), (a + -1, b + 1), (a + 0, b + -1), (a + 0, b + 1), (a + 1, b + -1), (a + 1, b + 0), (a + 1, b + 1)] := rfl
  rw [e]
  simp only [List.nodup_cons, List.mem_cons, List.not_mem_nil, or_false, Prod.mk.injEq, not_or, not_false_eq_true, List.nodup_nil, and_true]
  omega
/-- taken with what touches it: one cell more -/
theorem zuz {kvs kvs' : List (Ce × Bool)} {y : Ce} (hy : y ∈ kvs.map (·.1)) (ht : zmf (bes kvs y) = true) (hk : ∀ x, x ∈ kvs'.map (·.1) ↔ x ∈ kvs.map (·.1) ∧ x ∉ y :: bes kvs y) : al (kvs.map (·.1)) = 1 + al (kvs'.map (·.1)) := by
  refine zxe hy (fun a ha b hb t1 t2 => ?_) fun x => ?_
  · by_cases e1 : a = y
    · rw [e1]; exact t2
    · by_cases e2 : b = y
      · rw [e2]; exact ze2 t1
      · exact ztr ht (zlm.mpr ⟨⟨t1, e1⟩, ha⟩) (zlm.mpr ⟨⟨t2, e2⟩, hb⟩)
  · rw [hk x, List.mem_cons, zlm]
    constructor
    · rintro ⟨h1, h2⟩
      refine ⟨h1, fun t => h2 ?_⟩
      by_cases e : x = y
      · exact .inl e
      · exact .inr ⟨⟨t, e⟩, h1⟩
    · rintro ⟨h1, h2⟩
      refine ⟨h1, fun h => h2 ?_⟩
      rcases h with e | h
      · rw [e]; exact ze0 y
      · exact h.1.1
theorem zm1 {α : Type} (f : α → Nat) : ∀ L : List α, (L.map fun b => (f b : Int)).sum = ((L.map f).sum : Nat)
  | [] => rfl
  | x :: r => by rw [List.map_cons, List.sum_cons, List.map_cons, List.sum_cons, zm1 f r]; omega
theorem zwv {S b : Bl} (hS : S.Nodup) {L : List Bl} (P : zb4 S L) (hb : b ∈ L) (h2 : 1 < L.length) : b.length < S.length := by
  have hx : ∃ b' ∈ L, b' ≠ b := by
    apply Classical.byContradiction
    intro h
    have all : ∀ c ∈ L, c = b := fun c hc => Classical.byContradiction fun n => h ⟨c, hc, n⟩
    have nd := P.nodup
    match L, h2, all, nd with
    | a :: c :: r, _, all, nd =>
      have e1 := all a List.mem_cons_self
      have e2 := all c (List.mem_cons_of_mem _ List.mem_cons_self)
      rw [e1, e2] at nd
      exact (List.nodup_cons.mp nd).1 List.mem_cons_self
  obtain ⟨b', hb', n⟩ := hx
  obtain ⟨x, hx⟩ := List.exists_mem_of_ne_nil _ (P.ne b' hb')
  have hxb : x ∉ b := fun h => P.far hb hb' (Ne.symm n) x h x hx (ze0 x)
  have : (x :: b).length ≤ S.length := zla (List.nodup_cons.mpr ⟨hxb, P.nd b hb⟩) fun y hy => by
    rcases List.mem_cons.mp hy with e | hy
    · rw [e]; exact (P.cov x).mpr ⟨b', hb', hx⟩
    · exact (P.cov y).mpr ⟨b, hb, hy⟩
  rw [List.length_cons] at this
  omega
abbrev zcr : List Str := ["cells", "left", "found", "waiting", "cell", "beside", "other", "parts", "one", "part"]
def zd9 (R0 R1 : DRn) : DTS :=
    (ztm (zbl (dOp dNe (ze 3) (zgo dNil)))
    (dSeq (dAsg (dM0 "list" dPop (ze 3)) (zj 4))
    (dSeq (dAsg (dLc (zx (dCB zac (zf (ze 4) dNil))) (zj 6) (zbl (dOp (dIn false) (ze 6) (ze 1))) (ze 6) [6]) (zj 5))
    (dFrz 5 (dIfS (dAnd (zbl (dOp (dIn false) (ze 4) (ze 1))) (zbl (dCB zcw (zf (ze 5) dNil))))
    (dSeq (dAug 2 (dC (.int 1)) zjw)
    (dFor (zx (zgo (zf (ze 4) (ztj (ze 5) dNil)))) (zj 6)
    (dSeq (zf0 (dM "dict" zmp (ze 1) (zf (ze 6) dNil)))
    (dAug 3 (dFz (dLc (zx (dCB zac (zf (ze 6) dNil))) (zj 8) (zbl (dOp (dIn false) (ze 8) (ze 1))) (ze 8) [8])) zjw))))
    zem)))))
def zfv (R0 R1 : DRn) : DTS :=
    (dSeq (dAsg (dTup (zf (dDc (.dN []) (zx (ze 0)) (zj 4) dYes (ze 4) (dC (.bl true)) [4]) (zf (dC (.int 0)) (zf (dCB zna (zf (ze 0) dNil)) dNil)))) (zfd (za2 (zj 1) (za2 (zj 2) (za2 (zj 3) zfa))) 3))
    (dSeq (zd9 R0 R1)
    (dFrz 3 (dFrz 1 (dSeq (dAsg (dCB za3 (zf (dFz (dCB zqu (zf (ze 1) dNil))) dNil)) (zj 7))
    (dSeq (dIfS (zbl (dOp dGt (dCB dLen (zf (ze 7) dNil)) (dC (.int 1))))
    (dRet (dOp dAdd (ze 2) (dCB dSum (zf (dFz (dLc (zx (ze 7)) (zj 9) dYes (dCB R1 (zf (ze 9) dNil)) [9])) dNil))))
    zem)
    (dRet (dIf (zbl (dOp dEq (ze 7) (zgo dNil))) (ze 2) (dOp dAdd (ze 2) (dCB R0 (zf (dOp dIx (ze 7) (dC (.int 0))) dNil)))))))))))
/-- the state of the walk -/
structure AI (cells : Bl) (f : Int) (kvs : List (Ce × Bool)) : Prop where
  nd : (kvs.map (·.1)).Nodup
  eq : (al cells : Int) = f + (al (kvs.map (·.1)) : Int)
  len : kvs.length ≤ cells.length
abbrev stA (d : D) (l w : Addr) (f : Int) (x4 x5 x6 : Option D) : DSt := [some d, some (.ref l), some (.int f), some (.ref w), x4, x5, x6, none, none, none]
theorem zw9 {R0 R1 : DRn} {F : zgf} {G : DHp} {cells : Bl} {d : D} {l w : Addr} {kvs0 : List (Ce × Bool)} {W0 : Bl} (hlw : l ≠ w) (hl0 : G l = none) (hw0 : G w = none) (i0 : AI cells 0 kvs0) (hk0 : kvs0.length ≤ 100) (hW0 : W0.length ≤ 100) {x4 x5 x6 : Option D}
    (k : ∀ kvs f x4 x5 x6, AI cells f kvs → kvs.length ≤ 100 → F.nx (stA d l w f x4 x5 x6) (ah G l w kvs [])) : zd9 R0 R1 F (stA d l w 0 x4 x5 x6) (ah G l w kvs0 W0) := by
  unfold zd9 stA
  refine ⟨fun m η G' => ∃ kvs W f x4 x5 x6, η = stA d l w f x4 x5 x6 ∧ G' = ah G l w kvs W ∧ AI cells f kvs ∧ m = 200 * kvs.length + W.length ∧ kvs.length ≤ 100 ∧ m ≤ 30000, ⟨_, kvs0, W0, 0, _, _, _, rfl, rfl, i0, rfl, hk0, by omega⟩, ?_⟩
  rintro m η G' ⟨kvs, W, f, x4, x5, x6, rfl, rfl, inv, rfl, hk, hm⟩
  simp_arith only [true_and]
  refine zth (x := .ref w) (xs := W.map e2) (zqr ah_w) (zcb zbp _) (zo8 W) ?_
  rcases List.eq_nil_or_concat W with rfl | ⟨W1, y, hW⟩
  · simp_arith only [List.map_nil, List.isEmpty_nil]
    exact k kvs f x4 x5 x6 inv hk
  · rw [List.concat_eq_append] at hW
    subst hW
    have hie : ((W1 ++ [y]).map e2).isEmpty = false := by cases W1 <;> rfl
    rw [hie]
    simp_arith only [true_and]
    refine zqv (ds := W1.map e2) (d := e2 y) (by rw [ah_w, List.map_append]; rfl) ?_
    rw [zyr]
    refine zsl (xs := nxtL y) (f := e2) (fun z => decide (z ∈ kvs.map (·.1))) e2 (by rw [zh5]; omega) (fun R r => by simp_arith only [zx]; exact ⟨y, rfl, r⟩) (fun z hz G1 A B ext ka kb => ?_) fun b hb => ?_
    · simp_arith only [true_and]
      refine ztg (ext _ _ (ah_l hlw)) ?_
      rw [Bool.false_bne]
      cases e : decide (z ∈ kvs.map (·.1)) with
      | true => simp_arith only [true_and]; exact ka e
      | false => simp_arith only [true_and]; exact kb e
    · simp_arith only [zg, zaz hb, DO.tree]
      refine ztg (ah_l hlw) ?_
      rw [Bool.false_bne]
      rw [List.length_append, List.length_singleton] at hm
      by_cases hy : y ∈ kvs.map (·.1)
      · rw [decide_eq_true hy]
        simp_arith only [true_and]
        refine ⟨bes kvs y, rfl, by have := zsn kvs y; omega, ?_⟩
        cases ht : zmf (bes kvs y) with
        | false =>
          simp_arith only [true_and]
          exact ⟨_, by rw [List.length_append, List.length_singleton]; omega, _, (by repeat (first | exact Le.nil | apply Le.keep | apply Le.drop)), kvs, W1, f, _, _, _, rfl, rfl, inv, rfl, hk, by omega⟩
        | true =>
          simp_arith only [dFor, zx]
          have hbl := zsn kvs y
          have ndb : (y :: bes kvs y).Nodup := List.nodup_cons.mpr ⟨fun h => (zlm.mp h).1.2 rfl, (ztl y).sublist List.filter_sublist⟩
          have inb : ∀ z ∈ y :: bes kvs y, z ∈ kvs.map (·.1) := fun z hz => by
            rcases List.mem_cons.mp hz with e | hz
            · rw [e]; exact hy
            · exact (zlm.mp hz).2
          show ztj (ze 5) dNil [some d, some (.ref l), some (.int (f + 1)), some (.ref w), some (e2 y), some (.nd .lst ((bes kvs y).map e2)), x6, none, none, none] (ah G l w kvs W1) _
          simp_arith only [ztj]
          refine ⟨by rw [List.length_map]; omega, ?_⟩
          refine ⟨fun j η G2 => ∃ kvs2 W2 x6, η = stA d l w (f + 1) (some (e2 y)) (some (.nd .lst ((bes kvs y).map e2))) x6 ∧ G2 = ah G l w kvs2 W2 ∧ kvs2.map (·.1) = (kvs.map (·.1)).filter (fun u => decide (u ∉ (y :: bes kvs y).take j)) ∧ W2.length ≤ W1.length + 8 * j ∧ kvs2.length ≤ kvs.length, ⟨kvs, W1, x6, rfl, rfl, (List.filter_eq_self.mpr fun u _ => by simp).symm, by omega, Nat.le_refl _⟩, fun _ _ _ _ => trivial, ?_, ?_⟩
          · rintro j dz η G2 hdz ⟨kvs2, W2, x6, rfl, rfl, hks, hW2, hk2⟩
            have hdz' : ((y :: bes kvs y).map e2)[j]? = some dz := by simpa using hdz
            obtain ⟨z, hz, rfl⟩ := zcn hdz'
            have hj := (List.getElem?_eq_some_iff.mp hz).1
            rw [List.length_cons] at hj
            have hzn : z ∉ (y :: bes kvs y).take j := fun hm => by
              have nd2 : ((y :: bes kvs y).take (j + 1)).Nodup := ndb.sublist (List.take_sublist _ _)
              rw [zbt hz] at nd2
              exact (List.nodup_append.mp nd2).2.2 z hm z (List.mem_singleton.mpr rfl) rfl
            have hzm : z ∈ kvs2.map (·.1) := by
              rw [hks]
              exact List.mem_filter.mpr ⟨inb z (List.mem_of_getElem? hz), decide_eq_true hzn⟩
            simp_arith only [true_and]
            refine zkf (ah_l hlw) hzm (by omega) fun b1 => ?_
            rw [zy2 hlw]
            refine zsl (xs := nxtL z) (f := e2) (fun u => decide (u ∈ (drK kvs2 z).map (·.1))) e2 (by rw [zh5]; omega) (fun R r => by simp_arith only [zx]; exact ⟨z, rfl, r⟩) (fun u hu G1 A B ext ka kb => ?_) fun b2 hb2 => ?_
            · simp_arith only [true_and]
              refine ztg (ext _ _ (ah_l hlw)) ?_
              rw [Bool.false_bne]
              cases e : decide (u ∈ (drK kvs2 z).map (·.1)) with
              | true => simp_arith only [true_and]; exact ka e
              | false => simp_arith only [true_and]; exact kb e
            · have hfl := List.length_filter_le (fun u => decide (u ∈ (drK kvs2 z).map (·.1))) (nxtL z)
              rw [zh5] at hfl
              generalize (nxtL z).filter (fun u => decide (u ∈ (drK kvs2 z).map (·.1))) = U at hfl ⊢
              have hdl : (drK kvs2 z).length ≤ kvs2.length := List.length_filter_le _ _
              simp_arith only [zg, zaz hb2, DO.tree]
              refine zij (xs := W2.map e2) (ys := U.map e2) ah_w rfl (zf1 (by rw [List.length_map, List.length_map]; omega)) ?_
              rw [← List.map_append, zyr]
              refine ⟨_, (by repeat (first | exact Le.nil | apply Le.keep | apply Le.drop)), drK kvs2 z, W2 ++ U, _, rfl, rfl, ?_, by rw [List.length_append]; omega, by omega⟩
              rw [zke, hks, List.filter_filter]
              refine List.filter_congr fun u _ => ?_
              rw [zbt hz, ← Bool.decide_and]
              refine decide_eq_decide.mpr ?_
              rw [List.mem_append, List.mem_singleton, not_or]
              exact And.comm
          · rintro η G2 ⟨kvs2, W2, x6, rfl, rfl, hks, hW2, hk2⟩
            rw [List.length_map] at hks hW2
            rw [List.take_of_length_le (by rw [List.length_cons]; exact Nat.le_refl _)] at hks
            have hal := zuz hy ht (kvs' := kvs2) fun x => by rw [hks, List.mem_filter, decide_eq_true_eq]
            have hlt : kvs2.length < kvs.length := by
              have : (kvs2.map (·.1)).length < (kvs.map (·.1)).length := by
                rw [hks]
                exact List.length_filter_lt_length_iff_exists.mpr ⟨y, hy, by simp⟩
              rwa [List.length_map, List.length_map] at this
            have heq := inv.eq
            exact ⟨_, by rw [List.length_append, List.length_singleton]; omega, _, (by repeat (first | exact Le.nil | apply Le.keep | apply Le.drop)), kvs2, W2, f + 1, _, _, _, rfl, rfl, ⟨by rw [hks]; exact inv.nd.sublist List.filter_sublist, by omega, Nat.le_trans hk2 inv.len⟩, rfl, by omega, by omega⟩
      · rw [decide_eq_false hy]
        simp_arith only [true_and]
        exact ⟨_, by rw [List.length_append, List.length_singleton]; omega, _, (by repeat (first | exact Le.nil | apply Le.keep | apply Le.drop)), kvs, W1, f, _, _, _, rfl, rfl, inv, rfl, hk, by omega⟩
theorem zl1 (n : Nat) : ∀ ds G Q, zak (n + 1) ds G Q → zfv (zbi n) (zak n) { nx := fun _ G' => Q .non G', rt := Q } (zbj zcr ds) G := fun ds G Q h => by
  obtain ⟨cells, hds, hn, hl, q⟩ := h
  obtain ⟨d, rfl, hd⟩ : ∃ d, ds = [d] ∧ (d = eL e2 cells ∨ d = eC cells) := by
    rcases hds with e | e
    · exact ⟨_, e, .inl rfl⟩
    · exact ⟨_, e, .inr rfl⟩
  simp_arith only [zfv, zcr]
  refine ziy (eα := e2) (f := id) (sl := cells) (by omega) (fun R r => ?_) (fun x hx G1 A aa => by simp_arith only [true_and]; exact aa) fun l hl0 kvs0 nd0 hm0 hk0 => ?_
  · rcases hd with rfl | rfl
    · simp_arith only [zx, eL]; exact r
    · simp_arith only [zx, eT]; exact r
  rw [List.map_id] at hm0
  refine zo0 hd fun w hw => ?_
  have hlw : l ≠ w := fun e => by rw [← e, zg] at hw; cases hw
  have hw0 : G w = none := by rwa [zdy (Ne.symm hlw)] at hw
  have es : (srtT e2 cells).length = cells.length := zhw
  refine zw9 (cells := cells) (x4 := none) (x5 := none) (x6 := none) hlw hl0 hw0 (W0 := srtT e2 cells) ⟨nd0, by rw [zkm hm0]; omega, hk0⟩ (by omega) (by omega) fun kvs f x4 x5 x6 inv hk => ?_
  have f1 : ah G l w kvs [] w = some (.lst []) := ah_w
  have f2 : DL.dl (ah G l w kvs []) w = up G l (.dN (enc DL.k2 .bl kvs)) := by
    unfold ah
    exact zaz (by rw [zdy (Ne.symm hlw)]; exact hw0)
  have heq := inv.eq
  have hkl : (kvs.map (·.1)).length ≤ 100 := by rw [List.length_map]; exact hk
  have P := zbg (kvs.map (·.1))
  have hpl := zhb (kvs.map (·.1))
  have hsub : (kvs.map (·.1)).length ≤ cells.length := by
    rw [List.length_map]; exact inv.len
  dsimp only
  simp_arith only [stA, f1, f2, zg, zaz hl0, DO.tree, zi8]
  refine zru fun p hp => ?_
  simp_arith only [zg, zaz hp, DO.tree]
  refine ze4 (cells := kvs.map (·.1)) (by omega) ?_
  rw [zeu (ds := (blkC (kvs.map (·.1))).map eC) rfl, List.length_map]
  simp_arith only [true_and]
  have hno : (kvs.map (·.1)).Nodup := inv.nd
  have hal := zuj P
  have bl : ∀ b ∈ blkC (kvs.map (·.1)), b.length ≤ (kvs.map (·.1)).length := fun b hb => zji hb
  have lt : ∀ b ∈ blkC (kvs.map (·.1)), 1 < (blkC (kvs.map (·.1))).length → b.length < (kvs.map (·.1)).length := fun b hb c => zwv hno P hb c
  generalize kvs.map (·.1) = K at hno P hpl hsub heq hkl hal bl lt ⊢
  by_cases c : 1 < (blkC K).length
  · rw [if_pos (by omega)]
    refine zg0 (xs := blkC K) (f := eC) (fun b => .int (al b : Int)) (by omega) (fun R r => by simp_arith only [zx]; exact r) (fun b hb G1 A k => ?_) fun w2 hw2 => ?_
    · simp_arith only [true_and]
      have h1 := lt b hb c
      exact ⟨b, .inr rfl, by omega, by omega, k⟩
    · simp_arith only [zg, zaz hw2, DO.tree]
      refine ⟨(blkC K).map fun b => (al b : Int), by show some _ = some _; rw [List.map_map]; rfl, ?_⟩
      simp_arith only [true_and]
      rw [zm1, ← hal, ← heq]
      exact q
  · rw [if_neg (by omega)]
    cases e : blkC K with
    | nil =>
      refine zqd (x := eL eC ([] : List Bl)) (xs := []) rfl rfl (fun d hd => (by cases hd)) ?_
      simp_arith only [true_and]
      rw [e] at hal
      rw [show f = (al cells : Int) by rw [heq, hal]; simp]
      exact q
    | cons b r =>
      have hb : b ∈ blkC K := by rw [e]; exact List.mem_cons_self
      have hr : r = [] := by
        rw [e, List.length_cons] at c
        exact List.length_eq_zero_iff.mp (by omega)
      subst hr
      have h1 := bl b hb
      refine zqd (x := eL eC [b]) (xs := [eC b]) rfl (zcb zej [b]) (fun d hd => by rw [List.mem_singleton.mp hd]; exact Nat.le_trans (zhi b) (by decide)) ?_
      simp_arith only [List.isEmpty_cons]
      refine zk9 (f := eC) (xs := [b]) (i := 0) (x := b) (by decide) rfl ?_
      refine ⟨b, rfl, P.ne b hb, by omega, by omega, ?_⟩
      simp_arith only [true_and]
      rw [e] at hal
      rw [show f + (al b : Int) = (al cells : Int) by rw [heq, hal]; simp]
      exact q
end M
namespace M
open PySem PySem.Spec PyProof.Rows L2 DL
variable [CA]
def tooX (m : Int) : XV := ⟨CA.TooMany, [("most", .int m)]⟩
def zcu : DRnX := fun ds G Q E => ∃ m : Int, ds = [.int m] ∧ (m < 1 → E (tooX m) G) ∧ (1 ≤ m → Q .non G)
abbrev zcs : List Str := ["most"]
def zft (U : DXK) : DTS :=
    (dIfS (zbl (dOp dLt (ze 0) (dC (.int 1))))
    (zot CA.TooMany "most" U (zf (ze 0) dNil))
    zem)
theorem zl2 : ∀ ds G Q E, zcu ds G Q E → ds.length = 1 := fun ds G Q E ⟨_, e, _⟩ => by rw [e]; rfl
theorem zme : ∀ ds G Q E, zcu ds G Q E → zft (fun x _ G' => E x G') { nx := fun _ G' => Q .non G', rt := Q } (zbj zcs ds) G := fun ds G Q E h => by
  obtain ⟨m, rfl, h1, h2⟩ := h
  simp_arith only [zft, zcs]
  by_cases c : m < 1
  · rw [if_pos c]
    simp_arith only [zot]
    exact h1 c
  · rw [if_neg c]
    exact h2 (by omega)
def kep (S b : Bl) : Bl := b.filter fun c => decide (c ∈ S)
def dbt (S b : Bl) : Bl := b.filter fun c => decide (c ∉ S)
noncomputable def zhf (S b : Bl) : Nat := (blkC (kep S b)).length + al ((dbt S b).filter fun x => decide (∀ k ∈ kep S b, ¬ tch k x))
def zcv : DRnX := fun ds G Q E => ∃ (S b : Bl) (kvs : List (Ce × Bool)) (m : Int), ds = [eC b, eDk kvs, .int m] ∧ (∀ x, x ∈ kvs.map (·.1) ↔ x ∈ S) ∧ b.length ≤ 1000 ∧ (dbt S b).length ≤ 7 ∧
  (m ≤ (dbt S b).length → E (tooX m) G) ∧ ((dbt S b).length < m → Q (.int (zhf S b : Int)) G)
abbrev za8 : List Str := ["blob", "sure", "most", "doubtful", "kept", "near", "cell", "late"]
def zfo (U : DXK) : DTS :=
    (dSeq (dPar 3 4 (zf (dFz (dLc (zx (ze 0)) (zj 6) (zbl (dOp (dIn true) (ze 6) (ze 1))) (ze 6) [6])) (zf (dFz (dLc (zx (ze 0)) (zj 6) (zbl (dOp (dIn false) (ze 6) (ze 1))) (ze 6) [6])) dNil)))
    (dSeq (dIfS (zbl (dOp dGe (dCB dLen (zf (ze 3) dNil)) (ze 2)))
    (zot CA.TooMany "most" U (zf (ze 2) dNil))
    zem)
    (dSeq (dAsg (dFz (dDc2 (.dN []) (zx (ze 4)) (zj 6) dYes (zx (dCB zac (zf (ze 6) dNil))) (zj 7) dYes (ze 7) (dC (.bl true)) [6, 7] [7])) (zj 5))
    (dRet (dOp dAdd (dCB dLen (zf (dCB za3 (zf (ze 4) dNil)) dNil)) (dCB (zak 8) (zf (dFz (dLc (zx (ze 3)) (zj 6) (zbl (dOp (dIn true) (ze 6) (ze 5))) (ze 6) [6])) dNil)))))))
theorem zmc : ∀ ds G Q E, zcv ds G Q E → ds.length = 3 := fun ds G Q E ⟨_, _, _, _, e, _⟩ => by rw [e]; rfl
theorem zwz {K : Bl} {G : DHp} {Q : DVK} {η : DSt} {wi : DTI} {g : DTG} {wi1 : DTI} {g1 : DTG} {tk : DTE} {own own1 : List Nat} (hl : K.length ≤ 1000)
    (hw : ∀ R, R (K.map e2) always G → wi η G R)
    (hg : ∀ k ∈ K, ∀ (G1 : DHp) (A : DSt → DHp → Prop), (∀ η2, (∀ R, R ((nxtL k).map e2) always G1 → wi1 η2 G1 R) → (∀ z ∈ nxtL k, ∀ (G2 : DHp) (B : DVK), B (e2 z) G2 → g1 (e2 z) (zc3 η2 own1) G2 fun η3 G3 => tk η3 G3 B) → A η2 G1) → g (e2 k) (zc3 η own) G1 A)
    (q : ∀ p, G p = none → ∀ kvs : List (Ce × Bool), (∀ x, x ∈ kvs.map (·.1) ↔ ∃ k ∈ K, x ∈ nxtL k) → Q (.ref p) (up G p (.dN (enc DL.k2 .bl kvs)))) :
    dDc2 (.dN []) wi g dYes wi1 g1 dYes tk (dC (.bl true)) own own1 η G Q := by
  unfold dDc2
  refine hw _ ?_
  intro p hp
  refine ⟨fun i G' => ∃ kvs : List (Ce × Bool), G' = up G p (.dN (enc DL.k2 .bl kvs)) ∧ kvs.length ≤ 8 * i ∧ (∀ x, x ∈ kvs.map (·.1) ↔ ∃ k ∈ K.take i, x ∈ nxtL k), ⟨[], rfl, Nat.zero_le _, by simp⟩, ?_, ?_, ?_⟩
  · rintro i G' ⟨kvs, rfl, _⟩
    exact ⟨trivial, zjd zg⟩
  · rintro i d G' hd ⟨kvs, rfl, hk, hm⟩
    obtain ⟨k, hkk, rfl⟩ := zcn hd
    have hi := (List.getElem?_eq_some_iff.mp hkk).1
    refine hg k (List.mem_of_getElem? hkk) _ _ fun η2 hw1 hg1 => ?_
    simp only [dYes, if_true]
    refine hw1 _ ?_
    refine ⟨fun j G4 => ∃ kvs2 : List (Ce × Bool), G4 = up G p (.dN (enc DL.k2 .bl kvs2)) ∧ kvs2.length ≤ 8 * i + j ∧ (∀ x, x ∈ kvs2.map (·.1) ↔ (∃ k ∈ K.take i, x ∈ nxtL k) ∨ x ∈ (nxtL k).take j), ⟨kvs, rfl, hk, fun x => by rw [hm]; simp⟩, fun _ _ _ => trivial, ?_, ?_⟩
    · rintro j dz G4 hdz ⟨kvs2, rfl, hk2, hm2⟩
      obtain ⟨z, hz, rfl⟩ := zcn hdz
      have hj := (List.getElem?_eq_some_iff.mp hz).1
      rw [zh5] at hj
      have := hg1 z (List.mem_of_getElem? hz) (up G p (.dN (enc DL.k2 .bl kvs2))) (fun y G7 => (∀ xs, G7 p ≠ some (.lst xs)) ∧ dSet (.ref p) y (.bl true) G7 fun G4 => ∃ kvs2 : List (Ce × Bool), G4 = up G p (.dN (enc DL.k2 .bl kvs2)) ∧ kvs2.length ≤ 8 * i + (j + 1) ∧ (∀ x, x ∈ kvs2.map (·.1) ↔ (∃ k ∈ K.take i, x ∈ nxtL k) ∨ x ∈ (nxtL k).take (j + 1))) ?_
      · simpa only [dC] using this
      · refine ⟨zjd zg, zqm (f := D.bl) (b := true) tk2 zg (zax (by omega)) ?_⟩
        rw [zfl]
        have hlp := zj7 kvs2 z true
        refine ⟨_, rfl, by omega, fun x => ?_⟩
        rw [zng, hm2, zbt hz, List.mem_append, List.mem_singleton, or_assoc]
    · rintro G4 ⟨kvs2, rfl, hk2, hm2⟩
      rw [List.length_map, zh5] at hk2
      rw [List.length_map, List.take_length] at hm2
      refine ⟨kvs2, rfl, by omega, fun x => ?_⟩
      rw [hm2, zbt hkk]
      constructor
      · rintro (⟨u, hu, hx⟩ | hx)
        · exact ⟨u, List.mem_append.mpr (.inl hu), hx⟩
        · exact ⟨k, List.mem_append.mpr (.inr (List.mem_singleton.mpr rfl)), hx⟩
      · rintro ⟨u, hu, hx⟩
        rcases List.mem_append.mp hu with hu | hu
        · exact .inl ⟨u, hu, hx⟩
        · rw [List.mem_singleton.mp hu] at hx
          exact .inr hx
  · rintro G' ⟨kvs, rfl, hk, hm⟩
    rw [List.length_map, List.take_length] at hm
    exact q p hp kvs hm
theorem zlz : ∀ ds G Q E, zcv ds G Q E → zfo (fun x _ G' => E x G') { nx := fun _ G' => Q .non G', rt := Q } (zbj za8 ds) G := fun ds G Q E h => by
  obtain ⟨S, b, kvs, m, rfl, hS, hb, hd7, h1, h2⟩ := h
  simp_arith only [zfo, za8]
  refine zfi (xs := b) (f := e2) (fun c => decide (c ∉ S)) e2 (by omega) (fun R r => by simp_arith only [zx, eT]; exact r) (fun c hc G1 A B ka kb => ?_) fun w hw => ?_
  · simp_arith only [true_and]
    refine zrr (neg := true) tk2 (decide (c ∈ S)) (by rw [decide_eq_true_eq]; exact (hS c).symm) ?_
    by_cases e : c ∈ S
    · rw [decide_eq_true e]; simp_arith only [true_and]; exact kb (decide_eq_false fun h => h e)
    · rw [decide_eq_false e]; simp_arith only [true_and]; exact ka (decide_eq_true e)
  simp_arith only [zg, zaz hw, DO.tree]
  refine zfi (xs := b) (f := e2) (fun c => decide (c ∈ S)) e2 (by omega) (fun R r => by simp_arith only [zx, eT]; exact r) (fun c hc G1 A B ka kb => ?_) fun w2 hw2 => ?_
  · simp_arith only [true_and]
    refine zrr (neg := false) tk2 (decide (c ∈ S)) (by rw [decide_eq_true_eq]; exact (hS c).symm) ?_
    by_cases e : c ∈ S
    · rw [decide_eq_true e]; simp_arith only [true_and]; exact ka (decide_eq_true e)
    · rw [decide_eq_false e]; simp_arith only [true_and]; exact kb (decide_eq_false e)
  simp_arith only [zg, zaz hw2, DO.tree]
  have hK : (kep S b).length ≤ b.length := List.length_filter_le _ _
  have ekd : ∀ k ∈ kep S b, ∀ x ∈ dbt S b, x ≠ k := fun k hk x hx e => by
    have a1 := of_decide_eq_true (List.mem_filter.mp hk).2
    have a2 := of_decide_eq_true (List.mem_filter.mp hx).2
    rw [e] at a2
    exact a2 a1
  show dLen [.nd .lst ((dbt S b).map e2)] G _
  unfold zhf at h2
  change (dbt S b).length ≤ 7 at hd7
  rw [show (b.filter fun c => decide (c ∈ S)) = kep S b from rfl, show (b.filter fun c => decide (c ∉ S)) = dbt S b from rfl]
  generalize dbt S b = Dt at hd7 h1 h2 ekd ⊢
  generalize kep S b = Kp at hK h2 ekd ⊢
  rw [zeu (ds := Dt.map e2) rfl, List.length_map]
  simp_arith only [true_and]
  by_cases c : m ≤ (Dt.length : Int)
  · rw [if_pos c]
    simp_arith only [zot]
    exact h1 c
  · rw [if_neg c]
    refine zwz (K := Kp) (by omega) (fun R r => by simp_arith only [zx]; exact r) (fun k hk G1 A a => ?_) fun p hp kvs2 hm => ?_
    · simp_arith only [true_and]
      refine a _ (fun R r => ?_) fun z hz G2 B b => ?_
      · simp_arith only [zx]
        exact ⟨k, rfl, r⟩
      · simp_arith only [true_and]
        exact b
    · simp_arith only [zg, zaz hp, zi8]
      refine ze4 (by omega) ?_
      rw [zeu (ds := (blkC Kp).map eC) rfl, List.length_map]
      refine zfi (xs := Dt) (f := e2) (fun x => decide (∀ k ∈ Kp, ¬ tch k x)) e2 (by omega) (fun R r => by simp_arith only [zx]; exact r) (fun x hx G1 A B ka kb => ?_) fun w3 hw3 => ?_
      · simp_arith only [true_and]
        refine zrr (neg := true) tk2 (!decide (∀ k ∈ Kp, ¬ tch k x)) ?_ ?_
        · rw [Bool.not_eq_true', decide_eq_false_iff_not, hm]
          constructor
          · intro h
            apply Classical.byContradiction
            intro h'
            exact h fun k hk t => h' ⟨k, hk, zi9.mpr ⟨t, ekd k hk x hx⟩⟩
          · rintro ⟨k, hk, hx2⟩ h
            exact h k hk (zi9.mp hx2).1
        · cases e : decide (∀ k ∈ Kp, ¬ tch k x) with
          | true => simp_arith only [true_and]; exact ka e
          | false => simp_arith only [true_and]; exact kb e
      · have hlf := List.length_filter_le (fun x => decide (∀ k ∈ Kp, ¬ tch k x)) Dt
        generalize hU : Dt.filter (fun x => decide (∀ k ∈ Kp, ¬ tch k x)) = U at hlf h2 ⊢
        simp_arith only [zg, zaz hw3, DO.tree]
        refine ⟨U, .inl rfl, by omega, by omega, ?_⟩
        simp_arith only [true_and]
        have := h2 (by omega)
        rw [show (((blkC Kp).length + al U : Nat) : Int) = ((blkC Kp).length : Int) + (al U : Int) by omega] at this
        exact this
noncomputable def zo3 (S M : Bl) : Nat := ((zd7 S M).map (zhf S)).sum
def zch : DRnX := fun ds G Q E => ∃ (rows : List (List Int)) (l s m : Int), ds = [rwD rows, .int l, .int s, .int m] ∧ RwO rows ∧ (∀ b ∈ zd7 (brU rows (l + s)) (brU rows (l - s)), (dbt (brU rows (l + s)) b).length ≤ 7) ∧
  ((m < 1 ∨ ∃ b ∈ zd7 (brU rows (l + s)) (brU rows (l - s)), m ≤ (dbt (brU rows (l + s)) b).length) → ∀ G', Gext G G' → E (tooX m) G') ∧
  (1 ≤ m → (∀ b ∈ zd7 (brU rows (l + s)) (brU rows (l - s)), ((dbt (brU rows (l + s)) b).length : Int) < m) → Q (.int (zo3 (brU rows (l + s)) (brU rows (l - s)) : Int)) G)
abbrev zbu : List Str := ["rows", "level", "slack", "most", "sure", "cell", "blob"]
def zfu (U : DXK) : DTS :=
    (dSeq (zf0 (dCX zcu U (zf (ze 3) dNil)))
    (dSeq (dAsg (dFz (dDc (.dN []) (zx (dCB zan (zf (ze 0) (zf (ze 1) (zf (ze 2) dNil))))) (zj 5) dYes (ze 5) (dC (.bl true)) [5])) (zj 4))
    (dRet (dCB dSum (zf (dFz (dLc (zx (dCB z3 (zf (ze 0) (zf (ze 1) (zf (ze 2) dNil))))) (zj 6) dYes (dCXp zcv U (zf (ze 6) (zf (ze 4) (zf (ze 3) dNil)))) [6])) dNil)))))
theorem zlv : ∀ ds G Q E, zch ds G Q E → ds.length = 4 := fun ds G Q E ⟨_, _, _, _, e, _⟩ => by rw [e]; rfl
theorem zic {S M : Bl} {b : Bl} : b ∈ zd7 S M ↔ b ∈ blkC M ∧ b ∉ zdm S M := by
  unfold zd7
  rw [List.mem_filter, decide_eq_true_eq]
theorem zl4 : ∀ ds G Q E, zch ds G Q E → zfu (fun x _ G' => E x G') { nx := fun _ G' => Q .non G', rt := Q } (zbj zbu ds) G := fun ds G Q E h => by
  obtain ⟨rows, l, s, m, rfl, ho, hd, h1, h2⟩ := h
  have hS := ho.cells (l + s)
  have hM := ho.cells (l - s)
  simp_arith only [zfu, zbu, dCX]
  refine ⟨m, rfl, fun c => h1 (.inl c) G (fun _ _ h => h), fun c1 => ?_⟩
  simp_arith only [true_and]
  refine ziy (eα := e2) (f := id) (sl := srtT e2 (brU rows (l + s))) (by rw [zhw]; omega) (fun R r => ?_) (fun x hx G1 A aa => by simp_arith only [true_and]; exact aa) fun p hp kvs nd hm hk => ?_
  · simp_arith only [zx]
    exact ⟨rows, l, s, rfl, ho, r⟩
  rw [List.map_id] at hm
  have hm : ∀ x, x ∈ kvs.map (·.1) ↔ x ∈ brU rows (l + s) := fun x => (hm x).trans zgm
  simp_arith only [zg, zaz hp, zi8, dLc, zx]
  refine ⟨rows, l, s, rfl, ho, ?_⟩
  have hbl : ∀ b ∈ zd7 (brU rows (l + s)) (brU rows (l - s)), b.length ≤ 1000 := fun b hb => Nat.le_trans (zji (zic.mp hb).1) (by omega)
  have hnum : (zd7 (brU rows (l + s)) (brU rows (l - s))).length ≤ 1000 := Nat.le_trans (List.length_filter_le _ _) (Nat.le_trans (zhb _) (by omega))
  unfold zo3 at h2
  generalize zd7 (brU rows (l + s)) (brU rows (l - s)) = DB at hd h1 h2 hbl hnum ⊢
  generalize brU rows (l + s) = S at hd h1 h2 hm ⊢
  show ∀ p, G p = none → _
  intro p2 hp2
  refine ⟨fun i acc G' => acc = (DB.take i).map (fun b => D.int (zhf S b : Int)) ∧ G' = up G p2 (.lst acc) ∧ ∀ b ∈ DB.take i, ((dbt S b).length : Int) < m, ⟨rfl, rfl, fun b hb => by simp at hb⟩, fun i acc G' ⟨_, h, _⟩ => ⟨trivial, by rw [h]; exact zg⟩, fun i d acc G' hd' ⟨e1, e2', e3⟩ => ?_, fun acc G' ⟨e1, e2', e3⟩ => ?_⟩
  · obtain ⟨b, hb, rfl⟩ := zcn hd'
    have hi := (List.getElem?_eq_some_iff.mp hb).1
    have hbm := List.mem_of_getElem? hb
    subst e2'
    simp_arith only [dCXp]
    refine ⟨S, b, kvs, m, rfl, hm, hbl b hbm, hd b hbm, fun c _ => h1 (.inr ⟨b, hbm, c⟩) _ fun q o e => ?_, fun c => ?_⟩
    · rw [zdy (fun h => by rw [h, hp2] at e; cases e)]
      exact e
    · refine ⟨by rw [e1, List.length_map, List.length_take]; exact zax (by omega), zg, by rw [e1, zbt hb, List.map_append]; rfl, zfl, fun x hx => ?_⟩
      rw [zbt hb] at hx
      rcases List.mem_append.mp hx with hx | hx
      · exact e3 x hx
      · rw [List.mem_singleton.mp hx]; exact c
  · rw [List.length_map, List.take_length] at e1 e3
    subst e2' e1
    simp_arith only [zg, zaz hp2, DO.tree]
    refine ⟨DB.map fun b => (zhf S b : Int), by show some _ = some _; rw [List.map_map]; rfl, ?_⟩
    rw [zm1]
    exact h2 c1 e3
end M
namespace M
open PySem PySem.Spec PyProof.Rows L2 DL
variable [CA]
def cas (S D : Bl) : List Bl := D.foldl (fun cs c => cs ++ cs.map fun k => srtT e2 (k ++ [c])) [srtT e2 S]
theorem ztu (S : Bl) : cas S [] = [srtT e2 S] := rfl
theorem zif (S D : Bl) (c : Ce) : cas S (D ++ [c]) = cas S D ++ (cas S D).map fun k => srtT e2 (k ++ [c]) := by
  unfold cas
  rw [List.foldl_append]
  rfl
theorem zln (S D : Bl) : (cas S D).length = 2 ^ D.length := by
  refine zfh (p := fun D => (cas S D).length = 2 ^ D.length) rfl (fun D c ih => ?_) D
  rw [zif, List.length_append, List.length_map, ih, List.length_append, List.length_singleton, Nat.pow_succ]
  omega
theorem zrh (S D : Bl) : (cas S D)[0]? = some (srtT e2 S) := by
  refine zfh (p := fun D => (cas S D)[0]? = some (srtT e2 S)) rfl (fun D c ih => ?_) D
  rw [zif, List.getElem?_append_left (by rw [zln]; exact Nat.two_pow_pos _)]
  exact ih
/-- a case is the sure cells and some others -/
theorem zqt {S D : Bl} (nd : D.Nodup) : ∀ k ∈ cas S D, k.length ≤ S.length + D.length ∧ ∃ T : Bl, T.Nodup ∧ (∀ x ∈ T, x ∈ D) ∧ ∀ x, x ∈ k ↔ x ∈ S ∨ x ∈ T := by
  refine zfh (p := fun D => D.Nodup → ∀ k ∈ cas S D, k.length ≤ S.length + D.length ∧ ∃ T : Bl, T.Nodup ∧ (∀ x ∈ T, x ∈ D) ∧ ∀ x, x ∈ k ↔ x ∈ S ∨ x ∈ T) (fun _ k hk => ?_) (fun D c ih nd k hk => ?_) D nd
  · rw [ztu, List.mem_singleton] at hk
    subst hk
    refine ⟨by rw [zhw]; exact Nat.le_add_right _ _, [], List.nodup_nil, fun x hx => hx, fun x => ?_⟩
    rw [zgm]
    exact ⟨.inl, fun h => h.elim id fun h => (by cases h)⟩
  · have nd1 := (List.nodup_append.mp nd).1
    have hc : c ∉ D := fun h => (List.nodup_append.mp nd).2.2 c h c (List.mem_singleton.mpr rfl) rfl
    rw [zif] at hk
    rw [List.length_append, List.length_singleton]
    rcases List.mem_append.mp hk with hk | hk
    · obtain ⟨h0, T, h1, h2, h3⟩ := ih nd1 k hk
      exact ⟨by omega, T, h1, fun x hx => List.mem_append.mpr (.inl (h2 x hx)), h3⟩
    · obtain ⟨k0, hk0, rfl⟩ := List.mem_map.mp hk
      obtain ⟨h0, T, h1, h2, h3⟩ := ih nd1 k0 hk0
      refine ⟨by rw [zhw, List.length_append, List.length_singleton]; omega, T ++ [c], List.nodup_append.mpr ⟨h1, List.nodup_cons.mpr ⟨List.not_mem_nil, List.nodup_nil⟩, fun x hx y hy e => ?_⟩, fun x hx => ?_, fun x => ?_⟩
      · rw [List.mem_singleton.mp hy] at e
        rw [e] at hx
        exact hc (h2 c hx)
      · rcases List.mem_append.mp hx with hx | hx
        · exact List.mem_append.mpr (.inl (h2 x hx))
        · exact List.mem_append.mpr (.inr hx)
      · rw [zgm, List.mem_append, h3, List.mem_append, or_assoc]
/-- .. and all of them come -/
theorem zts (S D : Bl) : ∀ T : Bl, (∀ x ∈ T, x ∈ D) → ∃ k ∈ cas S D, ∀ x, x ∈ k ↔ x ∈ S ∨ x ∈ T := by
  refine zfh (p := fun D => ∀ T : Bl, (∀ x ∈ T, x ∈ D) → ∃ k ∈ cas S D, ∀ x, x ∈ k ↔ x ∈ S ∨ x ∈ T) (fun T hT => ?_) (fun D c ih T hT => ?_) D
  · refine ⟨srtT e2 S, by rw [ztu]; exact List.mem_singleton.mpr rfl, fun x => ?_⟩
    rw [zgm]
    exact ⟨.inl, fun h => h.elim id fun h => by have := hT x h; cases this⟩
  · obtain ⟨k, hk, e⟩ := ih (T.filter fun x => decide (x ≠ c)) fun x hx => by
      obtain ⟨h1, h2⟩ := List.mem_filter.mp hx
      rcases List.mem_append.mp (hT x h1) with h | h
      · exact h
      · exact absurd (List.mem_singleton.mp h) (of_decide_eq_true h2)
    rw [zif]
    by_cases hc : c ∈ T
    · refine ⟨_, List.mem_append.mpr (.inr (List.mem_map.mpr ⟨k, hk, rfl⟩)), fun x => ?_⟩
      rw [zgm, List.mem_append, e, List.mem_singleton, List.mem_filter, decide_eq_true_eq]
      constructor
      · rintro ((h | h) | h)
        · exact .inl h
        · exact .inr h.1
        · rw [h]; exact .inr hc
      · rintro (h | h)
        · exact .inl (.inl h)
        · by_cases q : x = c
          · exact .inr q
          · exact .inl (.inr ⟨h, q⟩)
    · refine ⟨k, List.mem_append.mpr (.inl hk), fun x => ?_⟩
      rw [e, List.mem_filter, decide_eq_true_eq]
      constructor
      · rintro (h | h)
        · exact .inl h
        · exact .inr h.1
      · rintro (h | h)
        · exact .inl h
        · exact .inr ⟨h, fun q => hc (by rw [← q]; exact h)⟩
structure SM (S M : Bl) : Prop where
  sub : ∀ x ∈ S, x ∈ M
  ns : S.Nodup
  nm : M.Nodup
def dou (S M : Bl) : Bl := M.filter fun x => decide (x ∉ S)
theorem zja {S M : Bl} {x : Ce} : x ∈ dou S M ↔ x ∈ M ∧ x ∉ S := by
  unfold dou
  rw [List.mem_filter, decide_eq_true_eq]
/-- a block that hangs together in a lot as it does in a greater one -/
theorem zro {K M b : Bl} (hb : b ∈ blkC M) (h1 : ∀ x ∈ b, x ∈ K) (h2 : ∀ x ∈ K, x ∈ M) : b ∈ blkC K := by
  have P := zbg M
  have Q := zbg K
  obtain ⟨x, hx⟩ := List.exists_mem_of_ne_nil _ (P.ne b hb)
  obtain ⟨b', hb', hx'⟩ := (Q.cov x).mp (h1 x hx)
  have p : b.Perm b' := zhj (P.nd b hb) (Q.nd b' hb') fun y => ⟨fun hy => (Q.mem hb' hx').mpr ((P.hang b hb x hx y hy).mono h1), fun hy => (P.mem hb hx).mpr (((Q.mem hb' hx').mp hy).mono h2)⟩
  have : b = b' := by rw [← zq5 hb, zky p, zq5 hb']
  rw [this]
  exact hb'
noncomputable def dueL (S M : Bl) : List Bl := (blkC S).filter fun b => (cas S (dou S M)).all fun k => decide (b ∈ blkC k)
theorem ztz {S M : Bl} (h : SM S M) : (dou S M).Nodup := h.nm.sublist List.filter_sublist
theorem zx4 {S M : Bl} (h : SM S M) : dueL S M = zdm S M := by
  refine zyg ((ztb S).sublist List.filter_sublist) ((ztb M).sublist List.filter_sublist) ((zbg S).nodup.sublist List.filter_sublist) ((zbg M).nodup.sublist List.filter_sublist) fun b => ?_
  rw [zf9]
  unfold dueL
  rw [List.mem_filter, List.all_eq_true]
  constructor
  · rintro ⟨h1, h2⟩
    refine ⟨?_, fun c hc => ((zbg S).cov c).mpr ⟨b, h1, hc⟩⟩
    obtain ⟨k, hk, e⟩ := zts S (dou S M) (dou S M) fun x hx => hx
    have := of_decide_eq_true (h2 k hk)
    rwa [ze9 (S := k) (T := M) fun x => ?_] at this
    rw [e, zja]
    constructor
    · rintro (g | g)
      · exact h.sub x g
      · exact g.1
    · intro g
      by_cases q : x ∈ S
      · exact .inl q
      · exact .inr ⟨g, q⟩
  · rintro ⟨h1, h2⟩
    refine ⟨zro h1 h2 h.sub, fun k hk => decide_eq_true ?_⟩
    obtain ⟨_, T, _, hT, e⟩ := zqt (ztz h) k hk
    refine zro h1 (fun x hx => (e x).mpr (.inl (h2 x hx))) fun x hx => ?_
    rcases (e x).mp hx with g | g
    · exact h.sub x g
    · exact (zja.mp (hT x g)).1
theorem zq6 {α : Type} (f : α → Nat) (p : α → Bool) : ∀ L : List α, (L.map f).sum = ((L.filter p).map f).sum + ((L.filter fun x => !p x).map f).sum
  | [] => rfl
  | x :: r => by
    have ih := zq6 f p r
    cases e : p x with
    | true => rw [List.filter_cons_of_pos e, List.filter_cons_of_neg (by rw [e]; decide), List.map_cons, List.sum_cons, List.map_cons, List.sum_cons]; omega
    | false => rw [List.filter_cons_of_neg (by rw [e]; decide), List.filter_cons_of_pos (by rw [e]; rfl), List.map_cons, List.sum_cons, List.map_cons, List.sum_cons]; omega
theorem zre {α : Type} (f : α → Nat) : ∀ L : List α, (∀ x ∈ L, f x = 1) → (L.map f).sum = L.length
  | [], _ => rfl
  | x :: r, h => by rw [List.map_cons, List.sum_cons, h x List.mem_cons_self, zre f r fun y hy => h y (List.mem_cons_of_mem _ hy), List.length_cons]; omega
theorem zsx {α : Type} (f g : α → Nat) : ∀ L : List α, (L.map fun x => f x + g x).sum = (L.map f).sum + (L.map g).sum
  | [] => rfl
  | x :: r => by rw [List.map_cons, List.sum_cons, zsx f g r, List.map_cons, List.sum_cons, List.map_cons, List.sum_cons]; omega
theorem zo7 (S M : Bl) : zd7 S M = (blkC M).filter fun b => !(b.all fun c => decide (c ∈ S)) := by
  unfold zd7
  refine List.filter_congr fun b hb => ?_
  have m := zf9 (S := S) (M := M) (b := b)
  cases q : b.all fun c => decide (c ∈ S) with
  | true =>
    rw [List.all_eq_true] at q
    exact decide_eq_false fun n => n (m.mpr ⟨hb, fun c hc => of_decide_eq_true (q c hc)⟩)
  | false =>
    refine decide_eq_true fun hm => ?_
    have : (b.all fun c => decide (c ∈ S)) = true := List.all_eq_true.mpr fun c hc => decide_eq_true ((m.mp hm).2 c hc)
    rw [this] at q
    cases q
theorem zr4 {S b : Bl} {M : Bl} (hb : b ∈ blkC M) (h : ∀ c ∈ b, c ∈ S) : zhf S b = 1 := by
  have P := zbg M
  have e1 : dbt S b = [] := List.filter_eq_nil_iff.mpr fun c hc q => of_decide_eq_true q (h c hc)
  have e2 : zb4 (kep S b) [b] := by
    refine ⟨fun x => ?_, fun c hc => ?_, fun c hc => ?_, List.pairwise_singleton _ _, fun c hc => ?_⟩
    · unfold kep
      rw [List.mem_filter, decide_eq_true_eq]
      exact ⟨fun g => ⟨b, List.mem_singleton.mpr rfl, g.1⟩, fun ⟨c, hc, g⟩ => by rw [List.mem_singleton.mp hc] at g; exact ⟨g, h x g⟩⟩
    · rw [List.mem_singleton.mp hc]; exact P.ne b hb
    · rw [List.mem_singleton.mp hc]; exact P.hang b hb
    · rw [List.mem_singleton.mp hc]; exact P.nd b hb
  unfold zhf
  rw [zj3 e2, e1]
  show 1 + al [] = 1
  rw [zv0]
theorem ztn {S M : Bl} (h : SM S M) : (zdm S M).length + zo3 S M = (blkC S).length + al ((dou S M).filter fun x => decide (∀ k ∈ S, ¬ tch k x)) := by
  have P := zbg M
  rw [ztw P h.sub, zyu (V := (dou S M).filter fun x => decide (∀ k ∈ S, ¬ tch k x)) P fun x hx => (zja.mp (List.mem_filter.mp hx).1).1, ← zsx]
  have e : (blkC M).map (fun b => (blkC (S.filter fun x => decide (x ∈ b))).length + al (((dou S M).filter fun x => decide (∀ k ∈ S, ¬ tch k x)).filter fun x => decide (x ∈ b))) = (blkC M).map (zhf S) := by
    refine List.map_congr_left fun b hb => ?_
    have sub : ∀ x ∈ b, x ∈ M := fun x hx => (P.cov x).mpr ⟨b, hb, hx⟩
    unfold zhf kep dbt
    rw [ze9 (S := S.filter fun x => decide (x ∈ b)) (T := b.filter fun c => decide (c ∈ S)) fun x => ?_]
    · congr 1
      refine zkm fun x => ?_
      simp only [List.mem_filter, decide_eq_true_eq, zja]
      constructor
      · rintro ⟨⟨⟨_, h2⟩, h3⟩, h4⟩
        exact ⟨⟨h4, h2⟩, fun k hk => h3 k hk.2⟩
      · rintro ⟨⟨h1, h2⟩, h3⟩
        refine ⟨⟨⟨sub x h1, h2⟩, fun k hk t => h3 k ⟨?_, hk⟩ t⟩, h1⟩
        exact (P.mem hb h1).mpr (.on (.here (sub x h1)) (h.sub k hk) (ze2 t))
    · simp only [List.mem_filter, decide_eq_true_eq]
      exact And.comm
  rw [e, zq6 (zhf S) (fun b => b.all fun c => decide (c ∈ S)) (blkC M)]
  unfold zo3
  rw [zo7]
  congr 1
  exact (zre (zhf S) _ fun b hb => by
    obtain ⟨h1, h2⟩ := List.mem_filter.mp hb
    rw [List.all_eq_true] at h2
    exact zr4 h1 fun c hc => of_decide_eq_true (h2 c hc)).symm
theorem zw7 (S M : Bl) : srtT eC (zdm S M ++ zd7 S M) = blkC M := by
  rw [← zp0 M]
  refine zpq ?_
  rw [zo7]
  exact List.filter_append_perm _ _
theorem zt1 {S M : Bl} (h : SM S M) : (zo3 S M : Int) = mxL ((cas S (dou S M)).map fun k => ((blkC k).length : Int)) - ((zdm S M).length : Int) := by
  have hs := ztn h
  have ne : (cas S (dou S M)).map (fun k => ((blkC k).length : Int)) ≠ [] := fun e => by
    have h1 := congrArg List.length e
    rw [List.length_map, zln] at h1
    have := Nat.two_pow_pos (dou S M).length
    simp only [List.length_nil] at h1
    omega
  obtain ⟨h1, h2⟩ := zj1 ne
  obtain ⟨k, hk, e⟩ := List.mem_map.mp h1
  obtain ⟨_, T, nd, hT, ek⟩ := zqt (ztz h) k hk
  have le := zn0 (K := S) (D := dou S M) (T := T) (fun x hx => ⟨hT x hx, (zja.mp (hT x hx)).2⟩) nd ek
  obtain ⟨T', g1, _, _, g4⟩ := zoi S (dou S M)
  obtain ⟨k', hk', ek'⟩ := zts S (dou S M) T' g1
  have ge := h2 _ (List.mem_map.mpr ⟨k', hk', rfl⟩)
  rw [g4 k' ek'] at ge
  omega
end M
namespace M
open PySem PySem.Spec PyProof.Rows L2 DL
variable [CA]
def zc8 : DRn := fun ds G Q => ∃ (a : Addr) (ns : List Int) (c : Int) (G0 : DHp) (xs : List Int), ds = [.ref a, eL .int xs] ∧ G = Gw G0 a ns c ∧ ns.length ≤ 63 ∧ xs ≠ [] ∧ xs.length ≤ 1000 ∧ ∀ x ∈ xs, Q (.int x) (Gw G0 a ns (c + 1))
abbrev zgj : List Str := ["draw", "items"]
def zhy : DTS :=
    (dRet (dOp dIx (ze 1) (dCB zap (zf (ze 0) (zf (dCB dLen (zf (ze 1) dNil)) dNil)))))
theorem znd : ∀ ds G Q, zc8 ds G Q → ds.length = 2 := fun ds G Q ⟨_, _, _, _, _, e, _⟩ => by rw [e]; rfl
theorem zom : ∀ ds G Q, zc8 ds G Q → zhy { nx := fun _ G' => Q .non G', rt := Q } (zbj zgj ds) G := fun ds G Q h => by
  obtain ⟨a, ns, c, G0, xs, rfl, rfl, hl, ne, hx, q⟩ := h
  simp_arith only [zhy, zgj]
  rw [zeu (ds := xs.map .int) rfl, List.length_map]
  have h0 := List.length_pos_iff.mpr ne
  refine zmu (by omega) hl fun r h1 h2 => ?_
  have hr : r.toNat < xs.length := by omega
  exact zk9 h1 (List.getElem?_eq_getElem hr) (q _ (List.getElem_mem hr))
abbrev zll : List Str := ["script", "draw", "width", "height", "level", "slack", "rows", "doubtful", "y", "row", "x", "bright", "sure", "maybe", "cases", "cell", "shown", "due", "points", "blob", "most", "let", "many", "case"]
def zjb : DTS :=
    (dFor (zdz (zf (ze 3) dNil)) (zj 8)
    (dSeq (dAsg (zf2 dNil) (zj 9))
    (dSeq (dFor (zdz (zf (ze 2) dNil)) (zj 10)
    (dSeq (dAsg (dCB zc8 (zf (ze 1) (zf (zgo (zf (dC (.int 0)) (zf (dC (.int 0)) (zf (dC (.int 0)) (zf (dC (.int 9)) (zf (dC (.int 9)) (zf (dC (.int 5)) dNil))))))) dNil))) (zj 11))
    (dSeq (dIfS (dAnd (zbl (dOp dEq (ze 11) (dC (.int 5)))) (zbl (dOp dEq (ze 7) (dC (.int 6)))))
    (dAsg (dC (.int 0)) (zj 11))
    zem)
    (dSeq (dAug 7 (dCB dInt (zf (dOp dEq (ze 11) (dC (.int 5))) dNil)) zjw)
    (zf0 (dM "list" zhe (ze 9) (zf (ze 11) dNil)))))))
    (dFrz 9 (zf0 (dM "list" zhe (ze 6) (zf (dCB zk7 (zf (ze 9) dNil)) dNil)))))))
def zia : DTS :=
    (dFor (zdz (zf (ze 3) dNil)) (zj 8)
    (dSeq (dAug 12 (dFz (dLc (zdz (zf (ze 2) dNil)) (zj 10) (zbl (dOp dEq (dOp dIx (dOp dIx (ze 6) (ze 8)) (ze 10)) (dC (.int 9)))) (dTup (zf (ze 10) (zf (ze 8) dNil))) [10])) zjw)
    (dAug 13 (dFz (dLc (zdz (zf (ze 2) dNil)) (zj 10) (zbl (dOp dGe (dOp dIx (dOp dIx (ze 6) (ze 8)) (ze 10)) (dC (.int 5)))) (dTup (zf (ze 10) (zf (ze 8) dNil))) [10])) zjw)))
def zh1 : DTS :=
    (dIfS (dOr (zbl (dOp dNe (dCB zan (zf (ze 6) (zf (ze 4) (zf (ze 5) dNil)))) (dFz (dCB zd3 (zf (ze 12) dNil))))) (zbl (dOp dNe (dCB z8 (zf (ze 6) (zf (ze 4) (zf (ze 5) dNil)))) (dFz (dCB zd3 (zf (ze 13) dNil))))))
    (dRet (dC (.bl false)))
    zem)
def zhx : DTS :=
    (dFor (zx (ze 13)) (zj 15)
    (dIfS (zbl (dOp (dIn true) (ze 15) (ze 12)))
    (dAug 14 (dFz (dLc (zx (ze 14)) (zj 23) dYes (dFz (dCB zd3 (zf (dOp dAdd (ze 23) (zgo (zf (ze 15) dNil))) dNil))) [23])) zjw)
    zem))
def zh6 : DTS :=
    (dAsg (dFz (dLc (zx (ze 14)) (zj 23) dYes (dCB za3 (zf (ze 23) dNil)) [23])) (zj 16))
def zn9 : DTS :=
    (dIfS (zbl (dOp dNe (dCB zal (zf (ze 6) (zf (ze 4) (zf (ze 5) dNil)))) (ze 17)))
    (dRet (dC (.bl false)))
    zem)
def zk8 : DTS :=
    (dFor (zx (ze 17)) (zj 19)
    (zf0 (dM "list" zhe (ze 18) (zf (dOp dAdd (dCB zdi (zf (ze 19) dNil)) (dTup (zf (dCB zc2 (zf (dCB dLen (zf (ze 19) dNil)) (zf (dTup (zf (dC (.int 2)) (zf (dC (.int 5)) dNil))) dNil))) dNil))) dNil))))
def zmt : DTS :=
    (dIfS (zbl (dOp dNe (dCB zcj (zf (ze 6) (zf (ze 4) (zf (ze 5) (zf (dTup (zf (dC (.int 2)) (zf (dC (.int 5)) dNil))) dNil))))) (dCB zk7 (zf (dFz (dCB zd3 (zf (ze 18) dNil))) dNil))))
    (dRet (dC (.bl false)))
    zem)
def zi7 : DTS :=
    (dIfS (zbl (dOp dNe (dFz (dCB zd3 (zf (dOp dAdd (ze 17) (dCB z3 (zf (ze 6) (zf (ze 4) (zf (ze 5) dNil))))) dNil))) (dCB za3 (zf (ze 13) dNil))))
    (dRet (dC (.bl false)))
    zem)
def zh2 : DTS :=
    (dIfS (zbl (dOp dNe (dCX zch (fun _ _ _ => False) (zf (ze 6) (zf (ze 4) (zf (ze 5) (zf (dC (.int 7)) dNil))))) (dOp dSub (dCB zpl (zf (dFz (dLc (zx (ze 16)) (zj 23) dYes (dCB dLen (zf (ze 23) dNil)) [23])) dNil)) (dCB dLen (zf (ze 17) dNil)))))
    (dRet (dC (.bl false)))
    zem)
def zi2 : DTS :=
    (dAsg (dCB zpl (zf (dOp dAdd (zgo (zf (dC (.int 0)) dNil)) (dFz (dLc (zx (dCB z3 (zf (ze 6) (zf (ze 4) (zf (ze 5) dNil))))) (zj 19) dYes (dCB dLen (zf (dFz (dLc (zx (ze 19)) (zj 15) (zbl (dOp (dIn true) (ze 15) (ze 12))) (ze 15) [15])) dNil)) [19]))) dNil)) (zj 20))
def zk5 : DTS :=
    (dFor (zx (dTup (zf (dC (.int 0)) (zf (ze 20) (zf (dOp dAdd (ze 20) (dC (.int 1))) dNil))))) (zj 21)
    (zxg CA.TooMany [] 22 (fun _ _ _ => False) (fun U1 => (dSeq (zf0 (dCX zch U1 (zf (ze 6) (zf (ze 4) (zf (ze 5) (zf (ze 21) dNil))))))
    (dIfS (zbl (dOp dLe (ze 21) (ze 20)))
    (dRet (dC (.bl false)))
    zem)))
    (fun a1 x1 => (dIfS (dOr (zbl (dOp dGt (ze 21) (ze 20))) (zbl (dOp dNe (dXF a1 CA.TooMany x1 "most" (ze 22)) (ze 21))))
    (dRet (dC (.bl false)))
    zem))))
def zxk : DTS :=
    (dSeq (dAsg (zf2 (zf (ze 0) (zf (dC (.int 0)) dNil))) (zj 1))
    (dSeq (dAsg (dTup (zf (dOp dAdd (dC (.int 2)) (dCB zap (zf (ze 1) (zf (dC (.int 4)) dNil)))) (zf (dOp dAdd (dC (.int 2)) (dCB zap (zf (ze 1) (zf (dC (.int 3)) dNil)))) (zf (dC (.int 5)) (zf (dOp dAdd (dC (.int 1)) (dCB zap (zf (ze 1) (zf (dC (.int 2)) dNil)))) dNil))))) (zfd (za2 (zj 2) (za2 (zj 3) (za2 (zj 4) (za2 (zj 5) zfa)))) 4))
    (dSeq (dAsg (dTup (zf (zf2 dNil) (zf (dC (.int 0)) dNil))) (zfd (za2 (zj 6) (za2 (zj 7) zfa)) 2))
    (dSeq zjb
    (dFrz 6 (dSeq (dAsg (dTup (zf (zf2 dNil) (zf (zf2 dNil) dNil))) (zfd (za2 (zj 12) (za2 (zj 13) zfa)) 2))
    (dSeq zia
    (dFrz 13 (dFrz 12 (dSeq zh1
    (dSeq (dAsg (zf2 (zf (dFz (dCB zd3 (zf (ze 12) dNil))) dNil)) (zj 14))
    (dSeq zhx
    (dFrz 14 (dSeq zh6
    (dSeq (dAsg (dLc (zx (dOp dIx (ze 16) (dC (.int 0)))) (zj 19) (zbl (dCB dAll (zf (dFz (dLc (zx (ze 16)) (zj 23) dYes (dOp (dIn false) (ze 19) (ze 23)) [23])) dNil))) (ze 19) [19]) (zj 17))
    (dFrz 17 (dSeq zn9
    (dSeq (dAsg (zf2 dNil) (zj 18))
    (dSeq zk8
    (dFrz 18 (dSeq zmt
    (dSeq zi7
    (dSeq zh2
    (dSeq zi2
    (dSeq zk5
    (dRet (dC (.bl true))))))))))))))))))))))))))))
def stL (ns : List Int) (a : Addr) (w h s : Int) (o6 o7 o8 o9 o10 o11 o12 o13 o14 o15 o16 o17 o18 o19 o20 o21 o22 o23 : Option D) : DSt := [some (.nd .scr (ns.map .int)), some (.ref a), some (.int w), some (.int h), some (.int 5), some (.int s), o6, o7, o8, o9, o10, o11, o12, o13, o14, o15, o16, o17, o18, o19, o20, o21, o22, o23]
structure WhP (w h s : Int) : Prop where
  ws : 2 ≤ w ∧ w ≤ 5
  hs : 2 ≤ h ∧ h ≤ 4
  ss : 1 ≤ s ∧ s ≤ 2
structure RwP (w : Int) (rows : List (List Int)) : Prop where
  len : ∀ r ∈ rows, (r.length : Int) = w
  val : ∀ r ∈ rows, ∀ b ∈ r, b = 0 ∨ b = 5 ∨ b = 9
def fv (row : List Int) : Nat := (row.filter fun b => decide (b = 5)).length
def fiv (rows : List (List Int)) : Nat := (rows.map fv).sum
theorem zjc (row : List Int) (x : Int) : fv (row ++ [x]) = fv row + if x = 5 then 1 else 0 := by
  unfold fv
  rw [List.filter_append, List.length_append]
  by_cases e : x = 5
  · rw [if_pos e]; simp [e]
  · rw [if_neg e]; simp [e]
theorem zrd (rows : List (List Int)) (row : List Int) : fiv (rows ++ [row]) = fiv rows + fv row := by
  unfold fiv
  rw [List.map_append, List.sum_append]
  simp
theorem zq7 {G : DHp} {Q : DVK} (q : Q (.int 0) G) : dInt [.bl false] G Q := q
theorem zuv {G : DHp} {Q : DVK} (q : Q (.int 1) G) : dInt [.bl true] G Q := q
section
variable {ns : List Int} {a : Addr} {w h s : Int}
theorem zxm {F : zgf} {G0 : DHp} {r : Addr} {c : Int} (W : WhP w h s) (hl : ns.length ≤ 63) (hr0 : G0 r = none) (har : a ≠ r)
    (k : ∀ rows c' o7 o8 o9 o10 o11, RwP w rows → (rows.length : Int) = h → fiv rows ≤ 6 → F.nx (stL ns a w h s (some (.ref r)) o7 o8 o9 o10 o11 none none none none none none none none none none none none) (Gw (up G0 r (.lst (rows.map (eT .int)))) a ns c')) :
    zjb F (stL ns a w h s (some (.ref r)) (some (.int 0)) none none none none none none none none none none none none none none none none) (Gw (up G0 r (.lst [])) a ns c) := by
  have hw := W.ws
  have hh := W.hs
  simp_arith only [zjb, stL, dFor, zdz]
  refine ⟨⟨by omega, by omega⟩, ?_⟩
  refine ⟨fun i η G' => ∃ rows c' o8 o9 o10 o11, η = stL ns a w h s (some (.ref r)) (some (.int (fiv rows : Int))) o8 o9 o10 o11 none none none none none none none none none none none none ∧ G' = Gw (up G0 r (.lst (rows.map (eT .int)))) a ns c' ∧ RwP w rows ∧ rows.length = i ∧ fiv rows ≤ 6, ⟨[], c, none, none, none, none, rfl, rfl, ⟨fun r hr => (by cases hr), fun r hr => (by cases hr)⟩, rfl, Nat.zero_le _⟩, fun _ _ _ _ => trivial, ?_, ?_⟩
  · rintro i d η G' hd ⟨rows, c', o8, o9, o10, o11, rfl, rfl, rp, hi, hf⟩
    obtain ⟨t, ht, rfl⟩ := zcn hd
    have hi' := (List.getElem?_eq_some_iff.mp ht).1
    simp_arith only [stL]
    intro q hq
    obtain ⟨e1, haq⟩ := zwe (o := .lst []) hq
    have hq0 := ztk haq hq
    have hrq : r ≠ q := fun e => by rw [← e, zg] at hq0; cases hq0
    have hq1 : G0 q = none := by rwa [zdy (Ne.symm hrq)] at hq0
    rw [e1]
    refine ⟨⟨by omega, by omega⟩, ?_⟩
    refine ⟨fun j η G2 => ∃ row c2 o10 o11, η = stL ns a w h s (some (.ref r)) (some (.int ((fiv rows + fv row : Nat) : Int))) (some (.int t)) (some (.ref q)) o10 o11 none none none none none none none none none none none none ∧ G2 = Gw (up (up G0 r (.lst (rows.map (eT .int)))) q (.lst (row.map .int))) a ns c2 ∧ row.length = j ∧ (∀ b ∈ row, b = 0 ∨ b = 5 ∨ b = 9) ∧ fiv rows + fv row ≤ 6, ⟨[], c', o10, o11, rfl, rfl, rfl, fun b hb => (by cases hb), hf⟩, fun _ _ _ _ => trivial, ?_, ?_⟩
    · rintro j d η G2 hd2 ⟨row, c2, o10, o11, rfl, rfl, hj, hv, hf2⟩
      obtain ⟨u, hu, rfl⟩ := zcn hd2
      have hj' := (List.getElem?_eq_some_iff.mp hu).1
      simp_arith only [stL]
      refine ⟨a, ns, c2, _, [0, 0, 0, 9, 9, 5], rfl, rfl, hl, by decide, by decide, fun x hx => ?_⟩
      have hx3 : x = 0 ∨ x = 5 ∨ x = 9 := by simp at hx; omega
      simp_arith only [true_and]
      have hwl : (zgz 0 w).length ≤ 5 := by rw [zf8]; omega
      by_cases c5 : x = 5
      · subst c5
        rw [if_pos rfl]
        by_cases c6 : ((fiv rows + fv row : Nat) : Int) = 6
        · rw [if_pos c6]
          have en : ((fiv rows + fv row : Nat) : Int) + 0 = ((fiv rows + fv (row ++ [0]) : Nat) : Int) := by rw [zjc, if_neg (by decide)]; omega
          rw [show decide ((0 : Int) = 5) = false from rfl]
          refine zq7 ?_
          simp_arith only [true_and]
          refine zg3 (y := .int 0) (zsf haq) (zax (by rw [List.length_map]; omega)) ?_
          rw [zvg haq, show row.map D.int ++ [D.int 0] = (row ++ [0]).map D.int by rw [List.map_append]; rfl, en]
          exact ⟨_, (by repeat (first | exact Le.nil | apply Le.keep | apply Le.drop)), row ++ [0], _, _, _, rfl, rfl, by rw [List.length_append, List.length_singleton, hj], fun b hb => (List.mem_append.mp hb).elim (hv b) fun e => by rw [List.mem_singleton.mp e]; omega, by rw [zjc]; rw [if_neg (by decide)]; omega⟩
        · rw [if_neg c6]
          have en : ((fiv rows + fv row : Nat) : Int) + 1 = ((fiv rows + fv (row ++ [5]) : Nat) : Int) := by rw [zjc, if_pos rfl]; omega
          rw [show decide ((5 : Int) = 5) = true from rfl]
          refine zuv ?_
          simp_arith only [true_and]
          refine zg3 (y := .int 5) (zsf haq) (zax (by rw [List.length_map]; omega)) ?_
          rw [zvg haq, show row.map D.int ++ [D.int 5] = (row ++ [5]).map D.int by rw [List.map_append]; rfl, en]
          exact ⟨_, (by repeat (first | exact Le.nil | apply Le.keep | apply Le.drop)), row ++ [5], _, _, _, rfl, rfl, by rw [List.length_append, List.length_singleton, hj], fun b hb => (List.mem_append.mp hb).elim (hv b) fun e => by rw [List.mem_singleton.mp e]; omega, by rw [zjc]; rw [if_pos rfl]; omega⟩
      · rw [if_neg c5, decide_eq_false c5]
        have en : ((fiv rows + fv row : Nat) : Int) + 0 = ((fiv rows + fv (row ++ [x]) : Nat) : Int) := by rw [zjc, if_neg c5]; omega
        refine zq7 ?_
        simp_arith only [true_and]
        refine zg3 (y := .int x) (zsf haq) (zax (by rw [List.length_map]; omega)) ?_
        rw [zvg haq, show row.map D.int ++ [D.int x] = (row ++ [x]).map D.int by rw [List.map_append]; rfl, en]
        exact ⟨_, (by repeat (first | exact Le.nil | apply Le.keep | apply Le.drop)), row ++ [x], _, _, _, rfl, rfl, by rw [List.length_append, List.length_singleton, hj], fun b hb => (List.mem_append.mp hb).elim (hv b) fun e => by rw [List.mem_singleton.mp e]; omega, by rw [zjc]; rw [if_neg c5]; omega⟩
    · rintro η G2 ⟨row, c2, o10, o11, rfl, rfl, hj, hv, hf2⟩
      rw [List.length_map, zf8] at hj
      have hhl : (zgz 0 h).length ≤ 4 := by rw [zf8]; omega
      simp_arith only [stL, zsf haq, zx7 haq hq0, DO.tree]
      rw [zn8 (ds := row.map .int) rfl]
      refine zg3 (y := eT .int row) (zsf har) (zax (by rw [List.length_map]; omega)) ?_
      rw [zvg har, show rows.map (eT D.int) ++ [eT D.int row] = (rows ++ [row]).map (eT D.int) by rw [List.map_append]; rfl, ← zrd]
      exact ⟨_, (by repeat (first | exact Le.nil | apply Le.keep | apply Le.drop)), rows ++ [row], c2, _, _, _, _, rfl, rfl, ⟨fun z hz => (List.mem_append.mp hz).elim (rp.len z) fun e => by rw [List.mem_singleton.mp e]; omega, fun z hz => (List.mem_append.mp hz).elim (rp.val z) fun e => by rw [List.mem_singleton.mp e]; exact hv⟩, by rw [List.length_append, List.length_singleton, hi], by rw [zrd]; exact hf2⟩
  · rintro η G' ⟨rows, c', o8, o9, o10, o11, rfl, rfl, rp, hi, hf⟩
    rw [List.length_map] at hi
    exact k rows c' _ _ _ _ _ rp (by rw [hi, zf8]; omega) hf
end
end M
namespace M
open PySem PySem.Spec PyProof.Rows L2 DL
variable [CA]
def h2 (H : DHp) (p q : Addr) (A B : Bl) : DHp := up (up H p (.lst (A.map e2))) q (.lst (B.map e2))
section
variable {H : DHp} {p q : Addr} {A A' B B' : Bl}
theorem h2_p (n : p ≠ q) : h2 H p q A B p = some (.lst (A.map e2)) := by unfold h2; rw [zdy n, zg]
theorem h2_q : h2 H p q A B q = some (.lst (B.map e2)) := by unfold h2; rw [zg]
theorem zy7 (n : p ≠ q) : up (h2 H p q A B) p (.lst (A'.map e2)) = h2 H p q A' B := by unfold h2; rw [zgr (Ne.symm n), zfl]
theorem zy3 : up (h2 H p q A B) q (.lst (B'.map e2)) = h2 H p q A B' := by unfold h2; rw [zfl]
end
theorem zoy {w : Int} {row : List Int} (h : (row.length : Int) = w) : (zgz 0 w).map D.int = (row.mapIdx fun i b => ((i : Int), b)).map fun z => D.int z.1 := by
  refine List.ext_getElem? fun i => ?_
  rw [List.getElem?_map, List.getElem?_map, List.getElem?_mapIdx]
  unfold zgz
  rw [List.getElem?_map]
  by_cases hi : i < row.length
  · rw [List.getElem?_range (by omega), List.getElem?_eq_getElem hi]
    simp
  · rw [List.getElem?_eq_none (by rw [List.length_range]; omega), List.getElem?_eq_none (by omega)]
    rfl
theorem zit {row : List Int} {z : Int × Int} (hz : z ∈ row.mapIdx fun i b => ((i : Int), b)) : 0 ≤ z.1 ∧ row[z.1.toNat]? = some z.2 := by
  obtain ⟨i, hi, e⟩ := List.mem_mapIdx.mp hz
  subst e
  exact ⟨by simp, by simp [hi]⟩
section
variable {ns : List Int} {a : Addr} {w h s : Int} {rows : List (List Int)}
theorem zt9 {F : zgf} {H : DHp} {p q : Addr} {o7 o8 o9 o10 o11 : Option D} (W : WhP w h s) (rp : RwP w rows) (rl : (rows.length : Int) = h) (npq : p ≠ q)
    (k : ∀ o8, F.nx (stL ns a w h s (some (rwD rows)) o7 o8 o9 o10 o11 (some (.ref p)) (some (.ref q)) none none none none none none none none none none) (h2 H p q (brU rows 9) (brU rows 5))) :
    zia F (stL ns a w h s (some (rwD rows)) o7 o8 o9 o10 o11 (some (.ref p)) (some (.ref q)) none none none none none none none none none none) (h2 H p q [] []) := by
  have hw := W.ws
  have hh := W.hs
  have ro : RwO rows := ⟨by omega, fun r hr => by have := rp.len r hr; omega⟩
  simp_arith only [zia, stL, dFor, zdz]
  refine ⟨⟨by omega, by omega⟩, ?_⟩
  refine ⟨fun i η G' => ∃ o8, η = stL ns a w h s (some (rwD rows)) o7 o8 o9 o10 o11 (some (.ref p)) (some (.ref q)) none none none none none none none none none none ∧ G' = h2 H p q ((rows.mapIdx (zco 9)).take i).flatten ((rows.mapIdx (zco 5)).take i).flatten, ⟨o8, rfl, rfl⟩, fun _ _ _ _ => trivial, ?_, ?_⟩
  · rintro i d η G' hd ⟨o8, rfl, rfl⟩
    obtain ⟨t, ht, rfl⟩ := zcn hd
    have hi' := (List.getElem?_eq_some_iff.mp ht).1
    rw [zf8] at hi'
    have et : t = (i : Int) := by
      unfold zgz at ht
      rw [List.getElem?_map, List.getElem?_range (by omega)] at ht
      simp at ht
      exact ht.symm
    subst et
    have hi : i < rows.length := by omega
    have hrow : rows[i]? = some rows[i] := List.getElem?_eq_getElem hi
    generalize rows[i] = row at hrow
    have hrm := List.mem_of_getElem? hrow
    have hlen := rp.len row hrm
    have hval := rp.val row hrm
    have e9 : (rows.mapIdx (zco 9))[i]? = some (zco 9 i row) := by rw [List.getElem?_mapIdx, hrow]; rfl
    have e5 : (rows.mapIdx (zco 5))[i]? = some (zco 5 i row) := by rw [List.getElem?_mapIdx, hrow]; rfl
    have b1 := zj8 rows 9 ro.len ro.row i
    have b2 := zj8 rows 5 ro.len ro.row i
    have b3 := zis 9 i row
    have b4 := zis 5 i row
    simp_arith only [stL]
    refine zfi (xs := row.mapIdx fun i b => ((i : Int), b)) (f := fun z => .int z.1) (fun z => decide (9 ≤ z.2)) (fun z => e2 (z.1, (i : Int))) (by rw [List.length_mapIdx]; omega) (fun R r => ?_) (fun z hz G1 A B ka kb => ?_) fun w1 hw1 => ?_
    · simp_arith only [zdz]
      refine ⟨⟨by omega, by omega⟩, ?_⟩
      rw [zoy hlen]
      exact r
    · obtain ⟨z0, z1⟩ := zit hz
      have hz3 := hval z.2 (List.mem_of_getElem? z1)
      simp_arith only [true_and]
      refine zk9 (by omega) (by rw [Int.toNat_natCast]; exact hrow) ?_
      refine ztd z0 z1 ?_
      simp_arith only [true_and]
      by_cases c : z.2 = 9
      · rw [if_pos c]
        exact ka (decide_eq_true (by omega))
      · rw [if_neg c]
        exact kb (decide_eq_false (by omega))
    · simp_arith only [zg, zaz hw1, DO.tree]
      have eL9 : ((row.mapIdx fun i b => ((i : Int), b)).filter fun z => decide (9 ≤ z.2)).map (fun z => e2 (z.1, (i : Int))) = (zco 9 i row).map e2 := by
        unfold zco
        rw [List.map_map]
        rfl
      rw [eL9]
      refine zij (xs := (((rows.mapIdx (zco 9)).take i).flatten).map e2) (ys := (zco 9 i row).map e2) (h2_p npq) rfl (zf1 (by rw [List.length_map, List.length_map]; omega)) ?_
      rw [← List.map_append, ← zqn e9, zy7 npq]
      refine zfi (xs := row.mapIdx fun i b => ((i : Int), b)) (f := fun z => .int z.1) (fun z => decide (5 ≤ z.2)) (fun z => e2 (z.1, (i : Int))) (by rw [List.length_mapIdx]; omega) (fun R r => ?_) (fun z hz G1 A B ka kb => ?_) fun w2 hw2 => ?_
      · simp_arith only [zdz]
        refine ⟨⟨by omega, by omega⟩, ?_⟩
        rw [zoy hlen]
        exact r
      · obtain ⟨z0, z1⟩ := zit hz
        simp_arith only [true_and]
        refine zk9 (by omega) (by rw [Int.toNat_natCast]; exact hrow) ?_
        refine ztd z0 z1 ?_
        simp_arith only [true_and]
        by_cases c : z.2 ≥ 5
        · rw [if_pos c]
          exact ka (decide_eq_true (by omega))
        · rw [if_neg c]
          exact kb (decide_eq_false (by omega))
      · simp_arith only [zg, zaz hw2, DO.tree]
        have eL5 : ((row.mapIdx fun i b => ((i : Int), b)).filter fun z => decide (5 ≤ z.2)).map (fun z => e2 (z.1, (i : Int))) = (zco 5 i row).map e2 := by
          unfold zco
          rw [List.map_map]
          rfl
        rw [eL5]
        refine zij (xs := (((rows.mapIdx (zco 5)).take i).flatten).map e2) (ys := (zco 5 i row).map e2) h2_q rfl (zf1 (by rw [List.length_map, List.length_map]; omega)) ?_
        rw [← List.map_append, ← zqn e5, zy3]
        exact ⟨_, (by repeat (first | exact Le.nil | apply Le.keep | apply Le.drop)), _, rfl, rfl⟩
  · rintro η G' ⟨o8, rfl, rfl⟩
    rw [List.length_map, zf8, show (h - 0).toNat = rows.length by omega]
    have t9 : (rows.mapIdx (zco 9)).take rows.length = rows.mapIdx (zco 9) := List.take_of_length_le (by rw [List.length_mapIdx]; exact Nat.le_refl _)
    have t5 : (rows.mapIdx (zco 5)).take rows.length = rows.mapIdx (zco 5) := List.take_of_length_le (by rw [List.length_mapIdx]; exact Nat.le_refl _)
    rw [t9, t5]
    exact k o8
theorem zpn {l l' : Int} (h : ∀ row ∈ rows, ∀ b ∈ row, (l ≤ b ↔ l' ≤ b)) : brU rows l = brU rows l' := by
  unfold brU
  congr 1
  refine List.ext_getElem? fun i => ?_
  rw [List.getElem?_mapIdx, List.getElem?_mapIdx]
  cases e : rows[i]? with
  | none => rfl
  | some row =>
    have hr := List.mem_of_getElem? e
    show some (zco l i row) = some (zco l' i row)
    congr 1
    unfold zco
    congr 1
    refine List.filter_congr fun z hz => decide_eq_decide.mpr ?_
    exact h row hr z.2 (List.mem_of_getElem? (zit hz).2)
theorem RwP.sure (rp : RwP w rows) (W : WhP w h s) : brU rows (5 + s) = brU rows 9 := zpn fun row hr b hb => by
  have := rp.val row hr b hb
  have := W.ss
  omega
theorem RwP.maybe (rp : RwP w rows) (W : WhP w h s) : brU rows (5 - s) = brU rows 5 := zpn fun row hr b hb => by
  have := rp.val row hr b hb
  have := W.ss
  omega
theorem zm2 {α : Type} {f : α → D} {xs : List α} {B : Nat} (cl : ∀ a, zah (f a) = true) (dp : ∀ a, (py (f a)).depth ≤ B) (hB : B ≤ 60) {G : DHp} {Q : DVK} (q : Q (.bl false) G) : dNe (eL f xs) (eL f xs) G Q :=
  zor (zrk cl _) (zrk cl _) (Nat.le_trans (zrc (B := B) dp _) (by omega)) (Nat.le_trans (zrc (B := B) dp _) (by omega)) false ⟨fun z => (by cases z), fun z => absurd rfl z⟩ q
theorem RwP.oo (rp : RwP w rows) (W : WhP w h s) (rl : (rows.length : Int) = h) : RwO rows := ⟨by have := W.hs; omega, fun r hr => by have := rp.len r hr; have := W.ws; omega⟩
theorem zvr {F : zgf} {H : DHp} {o7 o8 o9 o10 o11 : Option D} (W : WhP w h s) (rp : RwP w rows) (rl : (rows.length : Int) = h)
    (k : F.nx (stL ns a w h s (some (rwD rows)) o7 o8 o9 o10 o11 (some (eL e2 (brU rows 9))) (some (eL e2 (brU rows 5))) none none none none none none none none none none) H) :
    zh1 F (stL ns a w h s (some (rwD rows)) o7 o8 o9 o10 o11 (some (eL e2 (brU rows 9))) (some (eL e2 (brU rows 5))) none none none none none none none none none none) H := by
  simp_arith only [zh1, stL]
  refine ⟨rows, 5, s, rfl, rp.oo W rl, ?_⟩
  rw [rp.sure W]
  refine zb7 (f := e2) (xs := brU rows 9) rfl zbp DL.al2 (DL.st2 _) (fun a => Nat.le_trans (zcd a) (by decide)) fun w1 hw1 => ?_
  simp_arith only [zg, zaz hw1, DO.tree]
  refine zm2 zbp zcd (by decide) ?_
  simp_arith only [true_and]
  refine ⟨rows, 5, s, rfl, rp.oo W rl, ?_⟩
  rw [rp.maybe W]
  refine zb7 (f := e2) (xs := brU rows 5) rfl zbp DL.al2 (DL.st2 _) (fun a => Nat.le_trans (zcd a) (by decide)) fun w2 hw2 => ?_
  simp_arith only [zg, zaz hw2, DO.tree]
  refine zm2 zbp zcd (by decide) ?_
  simp_arith only [true_and]
  exact k
end
end M
namespace M
open PySem PySem.Spec PyProof.Rows L2 DL
variable [CA]
/-- [y for x in xs], xs a list that is changed yet -/
theorem zwq {wi : DTI} {g : DTG} {te : DTE} {own : List Nat} {η : DSt} {G : DHp} {Q : DVK} {α : Type} {xs : List α} {f : α → D} {p : Addr} (h : α → D) (hl : xs.length ≤ 1000000) (hp : G p = some (.lst (xs.map f)))
    (hw : ∀ R, R (xs.map f) (fun G => G p = some (.lst (xs.map f))) G → wi η G R)
    (hb : ∀ x ∈ xs, ∀ (G1 : DHp) (A : DVK), A (h x) G1 → g (f x) (zc3 η own) G1 fun η2 G2 => te η2 G2 A)
    (q : ∀ p2, G p2 = none → Q (.ref p2) (up G p2 (.lst (xs.map h)))) : dLc wi g dYes te own η G Q := by
  refine hw _ ?_
  intro p2 hp2
  have n : p ≠ p2 := fun e => by rw [e, hp2] at hp; cases hp
  refine ⟨fun i acc G' => acc = (xs.take i).map h ∧ G' = up G p2 (.lst acc), ⟨rfl, rfl⟩, ?_, ?_, ?_⟩
  · rintro i acc G' ⟨rfl, rfl⟩
    exact ⟨by show up G p2 _ p = _; rw [zdy n]; exact hp, zg⟩
  · rintro i d acc G' hd ⟨rfl, rfl⟩
    obtain ⟨x, hx, rfl⟩ := zcn hd
    have := hb x (List.mem_of_getElem? hx) (up G p2 (.lst ((xs.take i).map h))) (fun y G4 => ((xs.take i).map h).length < sizeLine ∧ G4 p2 = some (.lst ((xs.take i).map h)) ∧ ((xs.take i).map h ++ [y] = (xs.take (i + 1)).map h ∧ up G4 p2 (.lst ((xs.take i).map h ++ [y])) = up G p2 (.lst ((xs.take i).map h ++ [y])))) ⟨zax (by rw [List.length_map, List.length_take]; omega), zg, by rw [zbt hx, List.map_append]; rfl, by rw [zfl]⟩
    simpa only [dYes, if_true] using this
  · rintro acc G' ⟨rfl, rfl⟩
    rw [List.length_map, List.take_length]
    exact q p2 hp2
section
variable {ns : List Int} {a : Addr} {w h s : Int} {rows : List (List Int)}
theorem zug {F : zgf} {H : DHp} {p : Addr} {o6 o7 o8 o9 o10 o11 : Option D} {S M : Bl} (hS : S.length ≤ 900) (hD : (dou S M).length ≤ 6) (nd : (dou S M).Nodup)
    (k : ∀ o15, F.nx (stL ns a w h s o6 o7 o8 o9 o10 o11 (some (eL e2 S)) (some (eL e2 M)) (some (.ref p)) o15 none none none none none none none none) (up H p (.lst ((cas S (dou S M)).map (eL e2))))) :
    zhx F (stL ns a w h s o6 o7 o8 o9 o10 o11 (some (eL e2 S)) (some (eL e2 M)) (some (.ref p)) none none none none none none none none none) (up H p (.lst [eL e2 (srtT e2 S)])) := by
  simp_arith only [zhx, stL, dFor, zx]
  refine ⟨fun i η G' => ∃ o15, η = stL ns a w h s o6 o7 o8 o9 o10 o11 (some (eL e2 S)) (some (eL e2 M)) (some (.ref p)) o15 none none none none none none none none ∧ G' = up H p (.lst ((cas S (dou S (M.take i))).map (eL e2))), ⟨none, rfl, rfl⟩, fun _ _ _ _ => trivial, ?_, ?_⟩
  · rintro i d η G' hd ⟨o15, rfl, rfl⟩
    obtain ⟨c, hc, rfl⟩ := zcn hd
    simp_arith only [stL]
    refine zp4 (neg := true) ?_
    by_cases e : c ∈ S
    · rw [decide_eq_true e]
      simp_arith only [true_and]
      refine ⟨_, (by repeat (first | exact Le.nil | apply Le.keep | apply Le.drop)), _, rfl, ?_⟩
      unfold dou
      rw [zbt hc, List.filter_append]
      simp [e]
    · rw [decide_eq_false e]
      simp_arith only [true_and]
      have sub : (dou S (M.take (i + 1))).length ≤ (dou S M).length := ((List.take_sublist _ M).filter _).length_le
      have nd1 : (dou S (M.take i)).Nodup := nd.sublist ((List.take_sublist _ M).filter _)
      have es : dou S (M.take (i + 1)) = dou S (M.take i) ++ [c] := by
        unfold dou
        rw [zbt hc, List.filter_append]
        simp [e]
      have sl : (dou S (M.take i)).length ≤ 5 := by
        have := congrArg List.length es
        rw [List.length_append, List.length_singleton] at this
        omega
      have hcl : (cas S (dou S (M.take i))).length ≤ 32 := by
        rw [zln]
        exact Nat.pow_le_pow_right (by decide) sl
      have hks := zqt (S := S) nd1
      rw [es]
      have sn := zif S (dou S (M.take i)) c
      rw [sn]
      generalize cas S (dou S (M.take i)) = C at hcl hks ⊢
      refine zwq (xs := C) (f := eL e2) (p := p) (fun k => eL e2 (srtT e2 (k ++ [c]))) (by omega) zg (fun R r => ?_) (fun k hk G1 A kk => ?_) fun p2 hp2 => ?_
      · simp_arith only [zx, zg]
        exact r
      · have hkl := (hks k hk).1
        simp_arith only [true_and]
        refine zht (xs := k.map e2) (ys := [e2 c]) rfl rfl (zf1 (by rw [List.length_map, List.length_singleton]; omega)) ?_
        refine zb7 (f := e2) (xs := k ++ [c]) (by rw [List.map_append]; rfl) zbp DL.al2 (DL.st2 _) (fun a => Nat.le_trans (zcd a) (by decide)) fun w5 hw5 => ?_
        simp_arith only [zg, zaz hw5, DO.tree]
        exact kk
      · simp_arith only [zg, zaz hp2, DO.tree]
        refine zij (xs := C.map (eL e2)) (ys := C.map fun k => eL e2 (srtT e2 (k ++ [c]))) zg rfl (zf1 (by rw [List.length_map, List.length_map]; omega)) ?_
        rw [zfl]
        refine ⟨_, (by repeat (first | exact Le.nil | apply Le.keep | apply Le.drop)), _, rfl, ?_⟩
        rw [List.map_append, List.map_map]
        rfl
  · rintro η G' ⟨o15, rfl, rfl⟩
    rw [List.length_map, List.take_length]
    exact k o15
abbrev eLB (L : List Bl) : D := eL eC L
theorem zvd {F : zgf} {H : DHp} {o6 o7 o8 o9 o10 o11 o12 o13 o15 : Option D} {C : List Bl} (hC : C.length ≤ 64) (hk : ∀ k ∈ C, k.length ≤ 1000)
    (k : F.nx (stL ns a w h s o6 o7 o8 o9 o10 o11 o12 o13 (some (eL (eL e2) C)) o15 (some (eL (fun k => eLB (blkC k)) C)) none none none none none none none) H) :
    zh6 F (stL ns a w h s o6 o7 o8 o9 o10 o11 o12 o13 (some (eL (eL e2) C)) o15 none none none none none none none none) H := by
  simp_arith only [zh6, stL]
  refine zg0 (xs := C) (f := eL e2) (fun k => eLB (blkC k)) (by omega) (fun R r => by simp_arith only [zx]; exact r) (fun k hk' G1 A kk => ?_) fun w1 hw1 => ?_
  · simp_arith only [true_and]
    exact ze4 (hk k hk') kk
  · simp_arith only [zg, zaz hw1, DO.tree]
    exact k
theorem zw5 {neg : Bool} {b : Bl} {L : List Bl} {G : DHp} {Q : DVK} (q : Q (.bl (neg != decide (b ∈ L))) G) : dIn neg (eC b) (eLB L) G Q := by
  refine zwi (neg := neg) (x := eC b) (ds := L.map eC) (.inl rfl) (zej b) (zcb zej _) (Nat.le_trans (zhi b) (by decide)) (decide (b ∈ L)) ?_ q
  rw [decide_eq_true_eq]
  constructor
  · intro h
    exact List.mem_map.mpr ⟨b, h, rfl⟩
  · intro h
    obtain ⟨u, hu, e⟩ := List.mem_map.mp h
    rw [← zqw e]
    exact hu
theorem zze {F : zgf} {H : DHp} {o7 o8 o9 o10 o11 o12 o13 o14 o15 o16 : Option D} (W : WhP w h s) (rp : RwP w rows) (rl : (rows.length : Int) = h)
    (k : F.nx (stL ns a w h s (some (rwD rows)) o7 o8 o9 o10 o11 o12 o13 o14 o15 o16 (some (eLB (zdm (brU rows 9) (brU rows 5)))) none none none none none none) H) :
    zn9 F (stL ns a w h s (some (rwD rows)) o7 o8 o9 o10 o11 o12 o13 o14 o15 o16 (some (eLB (zdm (brU rows 9) (brU rows 5)))) none none none none none none) H := by
  simp_arith only [zn9, stL]
  refine ⟨rows, 5, s, rfl, rp.oo W rl, ?_⟩
  rw [rp.sure W, rp.maybe W]
  refine zm2 zej zhi (by decide) ?_
  simp_arith only [true_and]
  exact k
theorem zum {xs ys : List D} {G : DHp} {Q : DVK} (hl : xs.length + ys.length ≤ sizeLine) (q : Q (.nd .tup (xs ++ ys)) G) : dAdd (.nd .tup xs) (.nd .tup ys) G Q := ⟨hl, q⟩
theorem zx8 {F : zgf} {H : DHp} {p : Addr} {o6 o7 o8 o9 o10 o11 o12 o13 o14 o15 o16 : Option D} {L : List Bl} (hL : L.length ≤ 1000) (hb : ∀ b ∈ L, b ≠ [] ∧ b.length ≤ 1000)
    (k : ∀ o19, F.nx (stL ns a w h s o6 o7 o8 o9 o10 o11 o12 o13 o14 o15 o16 (some (eLB L)) (some (.ref p)) o19 none none none none) (up H p (.lst ((L.map (ptB [2, 5])).map e3)))) :
    zk8 F (stL ns a w h s o6 o7 o8 o9 o10 o11 o12 o13 o14 o15 o16 (some (eLB L)) (some (.ref p)) none none none none none) (up H p (.lst [])) := by
  simp_arith only [zk8, stL, dFor, zx]
  refine ⟨fun i η G' => ∃ o19, η = stL ns a w h s o6 o7 o8 o9 o10 o11 o12 o13 o14 o15 o16 (some (eLB L)) (some (.ref p)) o19 none none none none ∧ G' = up H p (.lst (((L.take i).map (ptB [2, 5])).map e3)), ⟨none, rfl, rfl⟩, fun _ _ _ _ => trivial, ?_, ?_⟩
  · rintro i d η G' hd ⟨o19, rfl, rfl⟩
    obtain ⟨b, hbb, rfl⟩ := zcn hd
    have hi := (List.getElem?_eq_some_iff.mp hbb).1
    obtain ⟨ne, hbl⟩ := hb b (List.mem_of_getElem? hbb)
    simp_arith only [stL]
    refine ⟨by simp only [tyD, zg], b, rfl, ne, hbl, ?_⟩
    dsimp only
    rw [zeu (ds := b.map e2) rfl, List.length_map]
    refine ⟨b.length, [2, 5], rfl, by decide, ?_⟩
    refine zum (xs := [.int (midB b).1, .int (midB b).2]) (ys := [.int (szB [2, 5] b.length)]) (zf1 (by simp)) ?_
    refine (zg3 (y := e3 (ptB [2, 5] b)) zg (zax (by rw [List.length_map, List.length_map, List.length_take]; omega)) ?_).2
    rw [zfl]
    exact ⟨_, (by repeat (first | exact Le.nil | apply Le.keep | apply Le.drop)), _, rfl, by rw [zbt hbb, List.map_append, List.map_append]; rfl⟩
  · rintro η G' ⟨o19, rfl, rfl⟩
    rw [List.length_map, List.take_length]
    exact k o19
theorem zyj {xs : List (Int × Int × Int)} {G : DHp} {Q : DVK} (q : Q (.bl false) G) : dNe (eT e3 xs) (eT e3 xs) G Q :=
  zor (zni zkb _) (zni zkb _) (Nat.le_trans (zne (B := 1) zj6 _) (by decide)) (Nat.le_trans (zne (B := 1) zj6 _) (by decide)) false ⟨fun z => (by cases z), fun z => absurd rfl z⟩ q
theorem zzj {F : zgf} {H : DHp} {o7 o8 o9 o10 o11 o12 o13 o14 o15 o16 o17 o19 : Option D} (W : WhP w h s) (rp : RwP w rows) (rl : (rows.length : Int) = h)
    (k : F.nx (stL ns a w h s (some (rwD rows)) o7 o8 o9 o10 o11 o12 o13 o14 o15 o16 o17 (some (eL e3 ((zdm (brU rows 9) (brU rows 5)).map (ptB [2, 5])))) o19 none none none none) H) :
    zmt F (stL ns a w h s (some (rwD rows)) o7 o8 o9 o10 o11 o12 o13 o14 o15 o16 o17 (some (eL e3 ((zdm (brU rows 9) (brU rows 5)).map (ptB [2, 5])))) o19 none none none none) H := by
  simp_arith only [zmt, stL]
  refine ⟨rows, 5, s, [2, 5], rfl, rp.oo W rl, by decide, ?_⟩
  rw [rp.sure W, rp.maybe W]
  refine zb7 (f := e3) (xs := (zdm (brU rows 9) (brU rows 5)).map (ptB [2, 5])) rfl zkb al3 (st3 _) (fun a => Nat.le_trans (zj6 a) (by decide)) fun w5 hw5 => ?_
  simp_arith only [zg, zaz hw5, DO.tree]
  rw [zn8 (ds := (srtT e3 ((zdm (brU rows 9) (brU rows 5)).map (ptB [2, 5]))).map e3) rfl]
  refine zyj ?_
  simp_arith only [true_and]
  exact k
theorem zw1 {F : zgf} {H : DHp} {o7 o8 o9 o10 o11 o12 o14 o15 o16 o18 o19 : Option D} (W : WhP w h s) (rp : RwP w rows) (rl : (rows.length : Int) = h)
    (k : F.nx (stL ns a w h s (some (rwD rows)) o7 o8 o9 o10 o11 o12 (some (eL e2 (brU rows 5))) o14 o15 o16 (some (eLB (zdm (brU rows 9) (brU rows 5)))) o18 o19 none none none none) H) :
    zi7 F (stL ns a w h s (some (rwD rows)) o7 o8 o9 o10 o11 o12 (some (eL e2 (brU rows 5))) o14 o15 o16 (some (eLB (zdm (brU rows 9) (brU rows 5)))) o18 o19 none none none none) H := by
  have hM := (rp.oo W rl).cells 5
  have n1 := zik (brU rows 9) (brU rows 5)
  have n2 : (zd7 (brU rows 9) (brU rows 5)).length ≤ (brU rows 5).length := Nat.le_trans (List.length_filter_le _ _) (zhb _)
  simp_arith only [zi7, stL]
  refine ⟨rows, 5, s, rfl, rp.oo W rl, ?_⟩
  rw [rp.sure W, rp.maybe W]
  refine zht (xs := (zdm (brU rows 9) (brU rows 5)).map eC) (ys := (zd7 (brU rows 9) (brU rows 5)).map eC) rfl rfl (zf1 (by rw [List.length_map, List.length_map]; omega)) ?_
  refine zb7 (f := eC) (xs := zdm (brU rows 9) (brU rows 5) ++ zd7 (brU rows 9) (brU rows 5)) (by rw [List.map_append]; rfl) zej alC (stC fun v hv => ?_) (fun a => Nat.le_trans (zhi a) (by decide)) fun w5 hw5 => ?_
  · refine (zbg (brU rows 5)).ne v ?_
    rcases List.mem_append.mp hv with hv | hv
    · exact (zf9.mp hv).1
    · exact (zic.mp hv).1
  simp_arith only [zg, zaz hw5, DO.tree]
  rw [zw7]
  refine ze4 (by omega) ?_
  refine zm2 zej zhi (by decide) ?_
  simp_arith only [true_and]
  exact k
/-- fewer doubtful cells than seven -/
theorem zq2 {S M : Bl} (h : SM S M) (hD : (dou S M).length ≤ 6) {b : Bl} (hb : b ∈ zd7 S M) : (dbt S b).length ≤ 6 := by
  have P := zbg M
  have hb1 := (zic.mp hb).1
  refine Nat.le_trans (zla ((P.nd b hb1).sublist List.filter_sublist) fun y hy => ?_) hD
  obtain ⟨h1, h2⟩ := List.mem_filter.mp hy
  exact zja.mpr ⟨(P.cov y).mpr ⟨b, hb1, h1⟩, of_decide_eq_true h2⟩
theorem zuy {F : zgf} {H : DHp} {o7 o8 o9 o10 o11 o12 o13 o14 o15 o18 o19 : Option D} (W : WhP w h s) (rp : RwP w rows) (rl : (rows.length : Int) = h) (sm : SM (brU rows 9) (brU rows 5)) (hD : (dou (brU rows 9) (brU rows 5)).length ≤ 6)
    (k : F.nx (stL ns a w h s (some (rwD rows)) o7 o8 o9 o10 o11 o12 o13 o14 o15 (some (eL (fun k => eLB (blkC k)) (cas (brU rows 9) (dou (brU rows 9) (brU rows 5))))) (some (eLB (zdm (brU rows 9) (brU rows 5)))) o18 o19 none none none none) H) :
    zh2 F (stL ns a w h s (some (rwD rows)) o7 o8 o9 o10 o11 o12 o13 o14 o15 (some (eL (fun k => eLB (blkC k)) (cas (brU rows 9) (dou (brU rows 9) (brU rows 5))))) (some (eLB (zdm (brU rows 9) (brU rows 5)))) o18 o19 none none none none) H := by
  have hsp := zt1 sm
  have few := fun b hb => zq2 (b := b) sm hD hb
  have hcl : (cas (brU rows 9) (dou (brU rows 9) (brU rows 5))).length ≤ 64 := by
    rw [zln]
    exact Nat.pow_le_pow_right (by decide) hD
  have hcn : cas (brU rows 9) (dou (brU rows 9) (brU rows 5)) ≠ [] := fun e => by
    have h1 := zrh (brU rows 9) (dou (brU rows 9) (brU rows 5))
    rw [e] at h1
    cases h1
  simp_arith only [zh2, stL, dCX]
  refine ⟨rows, 5, s, 7, rfl, rp.oo W rl, ?_⟩
  rw [rp.sure W, rp.maybe W]
  refine ⟨fun b hb => Nat.le_succ_of_le (few b hb), fun e => ?_, fun _ _ => ?_⟩
  · rcases e with e | ⟨b, hb, e⟩
    · exact absurd e (by decide)
    · have := few b hb
      omega
  generalize cas (brU rows 9) (dou (brU rows 9) (brU rows 5)) = C at hcl hcn hsp k ⊢
  refine zg0 (xs := C) (f := fun k => eLB (blkC k)) (fun k => .int ((blkC k).length : Int)) (by omega) (fun R r => by simp_arith only [zx]; exact r) (fun k hk G1 A kk => ?_) fun w1 hw1 => ?_
  · simp_arith only [true_and]
    rw [zeu (ds := (blkC k).map eC) rfl, List.length_map]
    exact kk
  · simp_arith only [zg, zaz hw1, DO.tree]
    rw [show (D.lst (C.map fun k => D.int ((blkC k).length : Int))) = eL .int (C.map fun k => ((blkC k).length : Int)) by unfold eL; rw [List.map_map]; rfl]
    refine zhn (fun e => hcn (List.map_eq_nil_iff.mp e)) ?_
    rw [zeu (ds := (zdm (brU rows 9) (brU rows 5)).map eC) rfl, List.length_map]
    simp_arith only [true_and]
    rw [hsp, if_neg (by simp)]
    exact k
noncomputable def moN (S M : Bl) : Int := mxL (0 :: (zd7 S M).map fun b => ((dbt S b).length : Int))
theorem zuu (S M : Bl) : 0 ≤ moN S M ∧ (∀ b ∈ zd7 S M, ((dbt S b).length : Int) ≤ moN S M) ∧ (moN S M = 0 ∨ ∃ b ∈ zd7 S M, moN S M = ((dbt S b).length : Int)) := by
  obtain ⟨h1, h2⟩ := zj1 (xs := 0 :: (zd7 S M).map fun b => ((dbt S b).length : Int)) (by simp)
  refine ⟨h2 0 List.mem_cons_self, fun b hb => h2 _ (List.mem_cons_of_mem _ (List.mem_map.mpr ⟨b, hb, rfl⟩)), ?_⟩
  rcases List.mem_cons.mp h1 with e | e
  · exact .inl e
  · obtain ⟨b, hb, e⟩ := List.mem_map.mp e
    exact .inr ⟨b, hb, e.symm⟩
theorem zwp {F : zgf} {H : DHp} {o7 o8 o9 o10 o11 o13 o14 o15 o16 o17 o18 o19 : Option D} (W : WhP w h s) (rp : RwP w rows) (rl : (rows.length : Int) = h)
    (k : F.nx (stL ns a w h s (some (rwD rows)) o7 o8 o9 o10 o11 (some (eL e2 (brU rows 9))) o13 o14 o15 o16 o17 o18 o19 (some (.int (moN (brU rows 9) (brU rows 5)))) none none none) H) :
    zi2 F (stL ns a w h s (some (rwD rows)) o7 o8 o9 o10 o11 (some (eL e2 (brU rows 9))) o13 o14 o15 o16 o17 o18 o19 none none none none) H := by
  have hM := (rp.oo W rl).cells 5
  have n2 : (zd7 (brU rows 9) (brU rows 5)).length ≤ (brU rows 5).length := Nat.le_trans (List.length_filter_le _ _) (zhb _)
  have hbl : ∀ b ∈ zd7 (brU rows 9) (brU rows 5), b.length ≤ 1000 := fun b hb => Nat.le_trans (zji (zic.mp hb).1) (by omega)
  simp_arith only [zi2, stL]
  refine zg0 (xs := zd7 (brU rows 9) (brU rows 5)) (f := eC) (fun b => .int ((dbt (brU rows 9) b).length : Int)) (by omega) (fun R r => ?_) (fun b hb G1 A kk => ?_) fun w1 hw1 => ?_
  · simp_arith only [zx]
    refine ⟨rows, 5, s, rfl, rp.oo W rl, ?_⟩
    rw [rp.sure W, rp.maybe W]
    exact r
  · have hb1 := hbl b hb
    simp_arith only [true_and]
    refine zfi (xs := b) (f := e2) (fun c => decide (c ∉ brU rows 9)) e2 (by omega) (fun R r => by simp_arith only [zx]; exact r) (fun c hc G2 A2 B2 ka kb => ?_) fun w2 hw2 => ?_
    · simp_arith only [true_and]
      refine zp4 (neg := true) ?_
      by_cases e : c ∈ brU rows 9
      · rw [decide_eq_true e]; simp_arith only [true_and]; exact kb (decide_eq_false fun h => h e)
      · rw [decide_eq_false e]; simp_arith only [true_and]; exact ka (decide_eq_true e)
    · simp_arith only [zg, zaz hw2, DO.tree]
      rw [zeu (ds := (dbt (brU rows 9) b).map e2) rfl, List.length_map]
      exact kk
  · simp_arith only [zg, zaz hw1, DO.tree]
    refine zht (xs := [.int 0]) (ys := (zd7 (brU rows 9) (brU rows 5)).map fun b => .int ((dbt (brU rows 9) b).length : Int)) rfl rfl (zf1 (by rw [List.length_map, List.length_singleton]; omega)) ?_
    rw [show (D.nd .lst ([D.int 0] ++ (zd7 (brU rows 9) (brU rows 5)).map fun b => D.int ((dbt (brU rows 9) b).length : Int))) = eL .int (0 :: (zd7 (brU rows 9) (brU rows 5)).map fun b => ((dbt (brU rows 9) b).length : Int)) by unfold eL; rw [List.map_cons, List.map_map]; rfl]
    refine zhn (by simp) ?_
    exact k
theorem zyn {F : zgf} {H : DHp} {o7 o8 o9 o10 o11 o12 o13 o14 o15 o16 o17 o18 o19 : Option D} (W : WhP w h s) (rp : RwP w rows) (rl : (rows.length : Int) = h) (sm : SM (brU rows 9) (brU rows 5)) (hD : (dou (brU rows 9) (brU rows 5)).length ≤ 6)
    (k : ∀ o21 G', F.nx (stL ns a w h s (some (rwD rows)) o7 o8 o9 o10 o11 o12 o13 o14 o15 o16 o17 o18 o19 (some (.int (moN (brU rows 9) (brU rows 5)))) o21 none none) G') :
    zk5 F (stL ns a w h s (some (rwD rows)) o7 o8 o9 o10 o11 o12 o13 o14 o15 o16 o17 o18 o19 (some (.int (moN (brU rows 9) (brU rows 5)))) none none none) H := by
  obtain ⟨m0, m1, m2⟩ := zuu (brU rows 9) (brU rows 5)
  have few := fun b hb => zq2 (b := b) sm hD hb
  have eS := rp.sure W
  have eM := rp.maybe W
  have oo := rp.oo W rl
  simp_arith only [zk5, stL, dFor, zx, zxg, dCX]
  generalize moN (brU rows 9) (brU rows 5) = mo at m0 m1 m2 k ⊢
  refine ⟨fun i η G' => ∃ o21, η = stL ns a w h s (some (rwD rows)) o7 o8 o9 o10 o11 o12 o13 o14 o15 o16 o17 o18 o19 (some (.int mo)) o21 none none, ⟨none, rfl⟩, fun _ _ _ _ => trivial, ?_, ?_⟩
  · rintro i d η G' hd ⟨o21, rfl⟩
    have h3 : (d = .int 0 ∨ d = .int mo) ∨ d = .int (mo + 1) := by
      match i, hd with
      | 0, hd => simp at hd; exact .inl (.inl hd.symm)
      | 1, hd => simp at hd; exact .inl (.inr hd.symm)
      | 2, hd => simp at hd; exact .inr hd.symm
      | i + 3, hd => simp at hd
    rcases h3 with h3 | rfl
    · obtain ⟨v, rfl, hv1, hv2⟩ : ∃ v, d = .int v ∧ v ≤ mo ∧ (1 ≤ v → ∃ b ∈ zd7 (brU rows 9) (brU rows 5), v ≤ ((dbt (brU rows 9) b).length : Int)) := by
        rcases h3 with e | e
        · exact ⟨0, e, m0, fun h => absurd h (by decide)⟩
        · refine ⟨mo, e, Int.le_refl _, fun h => ?_⟩
          rcases m2 with q | ⟨b, hb, q⟩
          · omega
          · exact ⟨b, hb, by omega⟩
      simp_arith only [stL]
      refine ⟨rows, 5, s, v, rfl, oo, ?_⟩
      rw [eS, eM]
      refine ⟨fun b hb => Nat.le_succ_of_le (few b hb), fun _ G2 _ => .inl ⟨rfl, fun b => ?_⟩, fun c1 c2 => ?_⟩
      · simp_arith only [zxa, dXF]
        rw [if_neg (by omega)]
        refine ⟨rfl, .int v, rfl, ?_⟩
        simp_arith only [true_and]
        rw [if_neg (by simp)]
        exact ⟨_, (by repeat (first | exact Le.nil | apply Le.keep | apply Le.drop)), _, rfl⟩
      · obtain ⟨b, hb, q⟩ := hv2 c1
        have := c2 b hb
        omega
    · simp_arith only [stL]
      refine ⟨rows, 5, s, mo + 1, rfl, oo, ?_⟩
      rw [eS, eM]
      refine ⟨fun b hb => Nat.le_succ_of_le (few b hb), fun e => ?_, fun _ _ => ?_⟩
      · rcases e with e | ⟨b, hb, e⟩
        · omega
        · have := m1 b hb
          omega
      · simp_arith only [true_and]
        rw [if_neg (by omega)]
        exact ⟨_, (by repeat (first | exact Le.nil | apply Le.keep | apply Le.drop)), _, rfl⟩
  · rintro η G' ⟨o21, rfl⟩
    exact k o21 G'
end
end M
namespace M
open PySem PySem.Spec PyProof.Rows L2 DL
variable [CA]
theorem zoz : ∀ {L : List Bl} {N : List Nat}, (∀ (i : Nat) (x : Bl) (n : Nat), L[i]? = some x → N[i]? = some n → x.length ≤ n) → L.length = N.length → L.flatten.length ≤ N.sum
  | [], N, _, _ => by simp
  | x :: L, [], _, e => by simp at e
  | x :: L, n :: N, h, e => by
    have h0 := h 0 x n rfl rfl
    have h1 := zoz (L := L) (N := N) (fun i y m hy hm => h (i + 1) y m hy hm) (by simpa using e)
    rw [List.flatten_cons, List.length_append, List.sum_cons]
    omega
theorem zwu {w : Int} {rows : List (List Int)} (rp : RwP w rows) : (dou (brU rows 9) (brU rows 5)).length ≤ fiv rows := by
  unfold dou fiv
  rw [show brU rows 5 = (rows.mapIdx (zco 5)).flatten from rfl, List.filter_flatten]
  refine zoz (fun i x n hx hn => ?_) (by rw [List.length_map, List.length_mapIdx, List.length_map])
  rw [List.getElem?_map, List.getElem?_mapIdx] at hx
  rw [List.getElem?_map] at hn
  cases e : rows[i]? with
  | none => rw [e] at hn; cases hn
  | some row =>
    rw [e] at hx hn
    simp only [Option.map_some, Option.some.injEq] at hx hn
    subst hx hn
    have hrow := List.mem_of_getElem? e
    unfold zco fv
    rw [List.filter_map, List.length_map, List.filter_filter]
    have e2 : (row.filter fun b => decide (b = 5)).length = ((row.mapIdx fun i b => ((i : Int), b)).filter fun z => decide (z.2 = 5)).length := by
      have : row = (row.mapIdx fun i b => ((i : Int), b)).map (·.2) := by
        refine List.ext_getElem? fun j => ?_
        rw [List.getElem?_map, List.getElem?_mapIdx]
        cases row[j]? <;> rfl
      conv => lhs; rw [this]
      rw [List.filter_map, List.length_map]
      rfl
    rw [e2, ← List.countP_eq_length_filter, ← List.countP_eq_length_filter]
    refine List.countP_mono_left fun z hz hq => ?_
    obtain ⟨z0, z1⟩ := zit hz
    have hv := rp.val row hrow z.2 (List.mem_of_getElem? z1)
    simp only [Function.comp, Bool.and_eq_true, decide_eq_true_eq] at hq
    refine decide_eq_true ?_
    obtain ⟨q1, q2⟩ := hq
    have n9 : ¬ 9 ≤ z.2 := fun h9 => q1 (zqj.mpr ⟨i, z.1.toNat, row, z.2, e, z1, h9, by rw [Int.toNat_of_nonneg z0]⟩)
    omega
theorem zxh (rows : List (List Int)) : SM (brU rows 9) (brU rows 5) := ⟨fun x hx => by
  obtain ⟨y, i, row, b, h1, h2, h3, h4⟩ := zqj.mp hx
  exact zqj.mpr ⟨y, i, row, b, h1, h2, by omega, h4⟩, zps _ _, zps _ _⟩
def sp_law : DRn := ztv
theorem zxs : ∀ ds G Q, sp_law ds G Q → ds.length = 1 := fun ds G Q h => by
  match ds, h with
  | [_], _ => rfl
theorem zxf : ∀ ds G Q, sp_law ds G Q → zxk { nx := fun _ G' => Q .non G', rt := Q } (zbj zll ds) G := fun ds G Q h => by
  match ds, h with
  | [_], ⟨ns, rfl, hl, hG, q⟩ =>
    simp_arith only [zxk, zll]
    intro a ha
    rw [show up G a (.lst [.nd .scr (ns.map .int), .int 0]) = Gw G a ns 0 from rfl]
    refine zmu (by decide) hl fun w w0 w1 => ?_
    simp_arith only [true_and]
    refine zmu (by decide) hl fun h h0 h1 => ?_
    simp_arith only [true_and]
    refine zmu (by decide) hl fun s s0 s1 => ?_
    simp_arith only [true_and]
    have W : WhP (2 + w) (2 + h) (1 + s) := ⟨by omega, by omega, by omega⟩
    generalize 2 + w = w at W ⊢
    generalize 2 + h = h at W ⊢
    generalize 1 + s = s at W ⊢
    intro r hr
    obtain ⟨e1, har⟩ := zwe (o := .lst []) hr
    have hr0 := ztk har hr
    rw [e1]
    refine zxm (c := _) W hl hr0 har fun rows c' o7 o8 o9 o10 o11 rp rl hf => ?_
    dsimp only
    simp_arith only [stL, zsf har, zx7 har hr0, DO.tree]
    generalize Gw G a ns c' = H
    intro p hp
    intro p2 hp2
    have npq : p ≠ p2 := fun e => by rw [← e, zg] at hp2; cases hp2
    have hp20 : H p2 = none := by rwa [zdy (Ne.symm npq)] at hp2
    refine zt9 (p := p) (q := p2) W rp rl npq fun o8 => ?_
    have ro := rp.oo W rl
    have sm := zxh rows
    have hD : (dou (brU rows 9) (brU rows 5)).length ≤ 6 := Nat.le_trans (zwu rp) hf
    have hS := ro.cells 9
    have hM := ro.cells 5
    have nd := ztz sm
    have f1 : h2 H p p2 (brU rows 9) (brU rows 5) p2 = some (.lst ((brU rows 5).map e2)) := h2_q
    have f2 : DL.dl (h2 H p p2 (brU rows 9) (brU rows 5)) p2 = up H p (.lst ((brU rows 9).map e2)) := by
      unfold h2
      exact zaz (by rw [zdy (Ne.symm npq)]; exact hp20)
    dsimp only
    simp_arith only [stL, f1, f2, zg, zaz hp, DO.tree]
    refine zvr W rp rl ?_
    dsimp only
    simp_arith only [stL]
    refine zb7 (f := e2) (xs := brU rows 9) rfl zbp DL.al2 (DL.st2 _) (fun a => Nat.le_trans (zcd a) (by decide)) fun w5 hw5 => ?_
    simp_arith only [zg, zaz hw5, DO.tree]
    intro p3 hp3
    refine zug (p := p3) hS hD nd fun o15 => ?_
    dsimp only
    simp_arith only [stL, zg, zaz hp3, DO.tree]
    have hks := zqt (S := brU rows 9) nd
    have hcl : (cas (brU rows 9) (dou (brU rows 9) (brU rows 5))).length ≤ 64 := by
      rw [zln]
      exact Nat.pow_le_pow_right (by decide) hD
    refine zvd (C := cas (brU rows 9) (dou (brU rows 9) (brU rows 5))) hcl (fun k hk => by have := (hks k hk).1; omega) ?_
    dsimp only
    simp_arith only [stL]
    refine zfi (xs := blkC (brU rows 9)) (f := eC) (fun b => (cas (brU rows 9) (dou (brU rows 9) (brU rows 5))).all fun k => decide (b ∈ blkC k)) eC (by have := zhb (brU rows 9); omega) (fun R r => ?_) (fun b hb G1 A B ka kb => ?_) fun w6 hw6 => ?_
    · simp_arith only [zx]
      refine zk9 (f := fun k => eLB (blkC k)) (i := 0) (by decide) (zrh _ _) ?_
      rw [ze9 (T := brU rows 9) fun x => zgm]
      exact r
    · generalize cas (brU rows 9) (dou (brU rows 9) (brU rows 5)) = C at hcl ka kb ⊢
      simp_arith only [true_and]
      refine zg0 (xs := C) (f := fun k => eLB (blkC k)) (fun k => .bl (decide (b ∈ blkC k))) (by omega) (fun R r => by simp_arith only [zx]; exact r) (fun k hk G2 A2 kk => ?_) fun w7 hw7 => ?_
      · simp_arith only [true_and]
        refine zw5 (neg := false) ?_
        rw [Bool.false_bne]
        exact kk
      · simp_arith only [zg, zaz hw7, DO.tree]
        refine zsm (xs := C) (b := fun k => decide (b ∈ blkC k)) ?_
        cases e : C.all fun k => decide (b ∈ blkC k) with
        | true => simp_arith only [true_and]; exact ka e
        | false => simp_arith only [true_and]; exact kb e
    · have hdue := zx4 sm
      unfold dueL at hdue
      rw [hdue]
      simp_arith only [zg, zaz hw6, DO.tree]
      refine zze W rp rl ?_
      dsimp only
      simp_arith only [stL]
      intro p4 hp4
      have n1 := zik (brU rows 9) (brU rows 5)
      refine zx8 (p := p4) (L := zdm (brU rows 9) (brU rows 5)) (by omega) (fun b hb => ⟨(zbg _).ne b (zf9.mp hb).1, Nat.le_trans (zji (zf9.mp hb).1) (by omega)⟩) fun o19 => ?_
      dsimp only
      simp_arith only [stL, zg, zaz hp4, DO.tree]
      refine zzj W rp rl ?_
      refine zw1 W rp rl ?_
      refine zuy W rp rl sm hD ?_
      refine zwp W rp rl ?_
      refine zyn W rp rl sm hD fun o21 G' => ?_
      exact q G'
end M
end
namespace M
open PySem PySem.Spec PyProof.Rows L2 DL
variable [CA]
theorem zee : FnScope zf7 ["cell"] (defScope zb0) := ⟨rfl, rfl, rfl, by decide +kernel, rfl, by decide +kernel, by decide +kernel⟩
theorem zgl : FnScope zlf ["cells"] (defScope zef) := ⟨rfl, rfl, rfl, by decide +kernel, rfl, by decide +kernel, by decide +kernel⟩
theorem zbm : FnScope zdk ["rows", "level"] (defScope z9) := ⟨rfl, rfl, rfl, by decide +kernel, rfl, by decide +kernel, by decide +kernel⟩
theorem zno : FnScope zfm ["rows", "level", "slack"] (defScope za9) := ⟨rfl, rfl, rfl, by decide +kernel, rfl, by decide +kernel, by decide +kernel⟩
theorem zls : FnScope zew ["rows", "level", "slack"] (defScope zau) := ⟨rfl, rfl, rfl, by decide +kernel, rfl, by decide +kernel, by decide +kernel⟩
theorem zcc : FnScope zdv ["rows", "level", "slack"] (defScope zaq) := ⟨rfl, rfl, rfl, by decide +kernel, rfl, by decide +kernel, by decide +kernel⟩
theorem zjg : FnScope zha ["many", "steps"] (defScope zcq) := ⟨rfl, rfl, rfl, by decide +kernel, rfl, by decide +kernel, by decide +kernel⟩
theorem zeq : FnScope zho ["blob"] (defScope zc5) := ⟨rfl, rfl, rfl, by decide +kernel, rfl, by decide +kernel, by decide +kernel⟩
theorem zf4 : FnScope zd2 ["rows", "level", "slack", "steps"] (defScope zam) := ⟨rfl, rfl, rfl, by decide +kernel, rfl, by decide +kernel, by decide +kernel⟩
theorem znw : FnScope zcs ["most"] (defScope zaa) := ⟨rfl, rfl, rfl, by decide +kernel, rfl, by decide +kernel, by decide +kernel⟩
theorem zc9 : FnScope ze7 ["cells"] (defScope zbn) := ⟨rfl, rfl, rfl, by decide +kernel, rfl, by decide +kernel, by decide +kernel⟩
theorem zn : FnScope zbb ["cells"] (defScope zo) := ⟨rfl, rfl, rfl, by decide +kernel, rfl, by decide +kernel, by decide +kernel⟩
theorem zr : FnScope zcr ["cells"] (defScope zab) := ⟨rfl, rfl, rfl, by decide +kernel, rfl, by decide +kernel, by decide +kernel⟩
theorem zaw : FnScope za8 ["blob", "sure", "most"] (defScope zt) := ⟨rfl, rfl, rfl, by decide +kernel, rfl, by decide +kernel, by decide +kernel⟩
theorem zb1 : FnScope zb9 ["rows", "level", "slack"] (defScope zq) := ⟨rfl, rfl, rfl, by decide +kernel, rfl, by decide +kernel, by decide +kernel⟩
theorem zdf : FnScope zbu ["rows", "level", "slack", "most"] (defScope z2) := ⟨rfl, rfl, rfl, by decide +kernel, rfl, by decide +kernel, by decide +kernel⟩
theorem zby : FnScope zez ["script", "index"] (defScope zav) := ⟨rfl, rfl, rfl, by decide +kernel, rfl, by decide +kernel, by decide +kernel⟩
theorem zpm : FnScope zgn ["draw", "many"] (defScope zbq) := ⟨rfl, rfl, rfl, by decide +kernel, rfl, by decide +kernel, by decide +kernel⟩
theorem zpb : FnScope zgj ["draw", "items"] (defScope zbs) := ⟨rfl, rfl, rfl, by decide +kernel, rfl, by decide +kernel, by decide +kernel⟩
theorem zai : FnScope zll ["script"] (defScope zfk) := ⟨rfl, rfl, rfl, by decide +kernel, rfl, by decide +kernel, by decide +kernel⟩
theorem zcy : bootBuiltins ("sorted" : Str) = some (.builtin "sorted") := by first | rfl | decide +kernel
theorem zkd : bootBuiltins ("tuple" : Str) = some (.type "tuple") := by first | rfl | decide +kernel
theorem zwh : bootBuiltins ("all" : Str) = some (.builtin "all") := by first | rfl | decide +kernel
theorem zfy : bootBuiltins ("len" : Str) = some (.builtin "len") := by first | rfl | decide +kernel
theorem zov : bootBuiltins ("min" : Str) = some (.builtin "min") := by first | rfl | decide +kernel
theorem zjq : bootBuiltins ("max" : Str) = some (.builtin "max") := by first | rfl | decide +kernel
theorem zxr : bootBuiltins ("list" : Str) = some (.type "list") := by first | rfl | decide +kernel
theorem zwa : bootBuiltins ("sum" : Str) = some (.builtin "sum") := by first | rfl | decide +kernel
theorem zlg : bootBuiltins ("int" : Str) = some (.type "int") := by first | rfl | decide +kernel
structure Txt (P : Program) (K : PySem.W.Frag) (mg : Str → Option Value) where
  zsv : Addr
  zbo : Addr
  zb5 : FuncData
  zeb : Fun K "nexts_to" "nexts_to" zb0 zbo zb5
  ze6 : mg "nexts_to" = some (.ref zbo)
  zd8 : Binds K zb5 ["cell"] []
  zc4 : Addr
  zdh : FuncData
  zh8 : Fun K "blobs" "blobs" zef zc4 zdh
  zjk : mg "blobs" = some (.ref zc4)
  zhk : Binds K zdh ["cells"] []
  za1 : Addr
  zbw : FuncData
  zf5 : Fun K "bright_cells" "bright_cells" z9 za1 zbw
  zhs : mg "bright_cells" = some (.ref za1)
  zg9 : Binds K zbw ["rows", "level"] []
  zbe : Addr
  zbz : FuncData
  zfp : Fun K "sure_cells" "sure_cells" za9 zbe zbz
  zg8 : mg "sure_cells" = some (.ref zbe)
  zgg : Binds K zbz ["rows", "level", "slack"] []
  zat : Addr
  zbk : FuncData
  ze3 : Fun K "maybe_cells" "maybe_cells" zau zat zbk
  zgu : mg "maybe_cells" = some (.ref zat)
  zf3 : Binds K zbk ["rows", "level", "slack"] []
  za6 : Addr
  zbv : FuncData
  zfn : Fun K "sure_blobs" "sure_blobs" zaq za6 zbv
  zg1 : mg "sure_blobs" = some (.ref za6)
  zgh : Binds K zbv ["rows", "level", "slack"] []
  zdl : Addr
  zeo : FuncData
  zlj : Fun K "size_by" "size_by" zcq zdl zeo
  zpo : mg "size_by" = some (.ref zdl)
  zmo : Binds K zeo ["many", "steps"] []
  zei : Addr
  zfs : FuncData
  znz : Fun K "middle" "middle" zc5 zei zfs
  zrn : mg "middle" = some (.ref zei)
  zpe : Binds K zfs ["blob"] []
  zcg : Addr
  zdd : FuncData
  ziz : Fun K "sure_points" "sure_points" zam zcg zdd
  zn3 : mg "sure_points" = some (.ref zcg)
  zl7 : Binds K zdd ["rows", "level", "slack", "steps"] []
  za7 : Addr
  zdu : FuncData
  zjr : Fun K "check_most" "check_most" zaa za7 zdu
  zpa : mg "check_most" = some (.ref za7)
  zof : Binds K zdu ["most"] []
  zc1 : Addr
  zdr : FuncData
  zms : Fun K "do_touch" "do_touch" zbn zc1 zdr
  zrw : mg "do_touch" = some (.ref zc1)
  zql : Binds K zdr ["cells"] []
  zbc : Addr
  zb6 : FuncData
  zet : Fun K "most_by_trying" "most_by_trying" zo zbc zb6
  zjz : mg "most_by_trying" = some (.ref zbc)
  zjm : Binds K zb6 ["cells"] []
  zbx : Addr
  zct : FuncData
  zdw : Fun K "most_apart" "most_apart" zab zbx zct
  zfz : mg "most_apart" = some (.ref zbx)
  zey : Binds K zct ["cells"] []
  zba : Addr
  zdx : FuncData
  zjt : Fun K "most_parts" "most_parts" zt zba zdx
  zpr : mg "most_parts" = some (.ref zba)
  zn2 : Binds K zdx ["blob", "sure", "most"] []
  zag : Addr
  za5 : FuncData
  zdp : Fun K "doubtful_blobs" "doubtful_blobs" zq zag za5
  zer : mg "doubtful_blobs" = some (.ref zag)
  zed : Binds K za5 ["rows", "level", "slack"] []
  zbd : Addr
  zdt : FuncData
  zhc : Fun K "most_spots" "most_spots" z2 zbd zdt
  zjs : mg "most_spots" = some (.ref zbd)
  ziu : Binds K zdt ["rows", "level", "slack", "most"] []
  zce : Addr
  zde : FuncData
  zim : Fun K "_law_number" "_law_number" zav zce zde
  znt : mg "_law_number" = some (.ref zce)
  zmd : Binds K zde ["script", "index"] []
  zcl : Addr
  zda : FuncData
  zfb : Fun K "_law_take" "_law_take" zbq zcl zda
  zgq : mg "_law_take" = some (.ref zcl)
  zfw : Binds K zda ["draw", "many"] []
  zdb : Addr
  zec : FuncData
  zkj : Fun K "_law_pick" "_law_pick" zbs zdb zec
  zp5 : mg "_law_pick" = some (.ref zdb)
  zpt : Binds K zec ["draw", "items"] []
  zr1 : Addr
  zve : FuncData
  zzb : Fun K "law" "law" zfk zr1 zve
  m_law : mg "law" = some (.ref zr1)
  bi_law : Binds K zve ["script"] []
  zdn : mg "sorted" = none
  zog : mg "tuple" = none
  zle : mg "enumerate" = none
  zyb : mg "all" = none
  zie : mg "len" = none
  zs1 : mg "min" = none
  zo5 : mg "max" = none
  zyx : mg "list" = none
  zxy : mg "sum" = none
  zqp : mg "int" = none
  zi6 : mg "range" = none
  zpx : ∃ t, mg "MOST_SIZE" = some (.int 99 t)
  zmn : DX.XTxt P K mg CA.TooMany zsv "most" "most"
  zi3 : mg "TooMany" = some (.ref CA.TooMany)
  zse : PySem.W.exmOne K (.ref CA.TooMany) (.ref CA.TooMany) = some true
  zrt : XfC K CA.TooMany
  zfc : PySem.W.findIn K (.ref CA.TooMany) "most" = some none
section
variable {P : Program} {w : World} {K : PySem.W.Frag} {mg : Str → Option Value} {base : Heap}
theorem zp7 [Bs] (T : Txt P K mg) (cdv : Value) (A : Around) (outer : List Env) (s : Shared) (H : Hp) (E : XK) (hr : Room 0 (A.deeper (envOfC "nexts_to" (defScope zb0) s.heap.objs.size T.zbo cdv))) :
    PSsD (cxOf CX0 P w K mg base zf7 "nexts_to" (defScope zb0) T.zbo cdv A outer s H E).nox (defBody zb0) zje :=
  (zh (zhz (za 0) (zea rfl (zw (zi (i := 1) zee.nd rfl (Or.inr rfl)) (zw (zi (i := 2) zee.nd rfl (Or.inr rfl)) zdc))))
      (zm (zbf (zar (zxn (own := [("right", 3), ("down", 4)]) (own1 := [4]) rfl zee.nd (zy (zck (zc (zs7 zk) (zc zk (zc zk zd))))) (blkOk_by (N := zf7) (sc := defScope zb0) (by decide +kernel)) (fun _ _ _ _ _ => (zi (i := 3) zee.nd rfl (Or.inl rfl))) (fun _ _ _ _ _ => za4) (fun _ _ _ _ _ => (zy (zck (zc (zs7 zk) (zc zk (zc zk zd)))))) (fun _ _ _ _ _ => (zi (i := 4) zee.nd rfl (Or.inl rfl))) (fun _ _ _ _ _ => (zcf (z6 (zjv hr.units) (zck (zc (za 3) (zc (za 4) zd))) (zck (zc zk (zc zk zd))) (nomark _)))) (fun _ _ _ _ _ => (zck (zc (zaj zdg (za 1) (za 3)) (zc (zaj zdg (za 2) (za 4)) zd)))))))))
theorem zqg (T : Txt P K mg) : FnD P w K mg base 1 T.zbo T.zb5 ["cell"] zac :=
  fn_d T.zeb zee zoo (zp7 T) zpu
theorem zuk [Bs] (T : Txt P K mg) (zu : FnD P w K mg base 1 T.zbo T.zb5 ["cell"] zac) (cdv : Value) (A : Around) (outer : List Env) (s : Shared) (H : Hp) (E : XK) (hr : Room 1 (A.deeper (envOfC "blobs" (defScope zef) s.heap.objs.size T.zc4 cdv))) :
    PSsD (cxOf CX0 P w K mg base zlf "blobs" (defScope zef) T.zc4 cdv A outer s H E).nox (defBody zef) zqh :=
  (zh (zk6 (i := 1) (j := 2) rfl zgl.nd rfl rfl (by decide) rfl rfl (zc (zjn hr.units (own := [("cell", 3)]) rfl zgl.nd (zy (za 0)) (blkOk_by (N := zlf) (sc := defScope zef) (by decide +kernel)) (fun _ _ _ _ _ => (zi (i := 3) zgl.nd rfl (Or.inl rfl))) (fun _ _ _ _ _ => za4) (fun _ _ _ _ _ => (za 3)) (fun _ _ _ _ _ => zfe)) (zc (zd4 zd) zd)) (by with_unfolding_all rfl))
      (zh (ze8 PassesOwn.never rfl (zy (zar (zl (zcx hr.units) T.zdn zcy (zc (za 0) zd)))) (zi (i := 3) zgl.nd rfl (Or.inl rfl))
      (zm (zev (z6 (znm (have h := DL.Room.u65 hr; h)) (za 3) (za 1) (by with_unfolding_all rfl))
      (zh (zd1 (zob PySem.F.plainAttrs_dict PySem.F.slot_dict_pop PySem.F.type_dict_pop (zm9 hr.units) (za 1) (zc (za 3) zd)))
      (zh (zk6 (i := 4) (j := 5) rfl zgl.nd rfl rfl (by decide) rfl rfl (zc (zd4 (zc (za 3) zd)) (zc (zd4 (zc (za 3) zd)) zd)) (by with_unfolding_all rfl))
      (zh (zoq PassesOwn.never (z6 (zjv hr.units) (za 5) (zex zd) (nomark _))
      (zm (ze8 PassesOwn.never rfl (zy (zp zu (hr.mono (by decide)) T.ze6 T.zeb.kp T.zd8 (zc (zvt PySem.F.plainAttrs_list PySem.F.slot_list_pop PySem.F.type_list_pop zv6 (za 5)) zd))) (zi (i := 6) zgl.nd rfl (Or.inl rfl))
      (zm (zev (z6 (znm (have h := DL.Room.u65 hr; h)) (za 6) (za 1) (by with_unfolding_all rfl))
      (zh (zd1 (zob PySem.F.plainAttrs_dict PySem.F.slot_dict_pop PySem.F.type_dict_pop (zm9 hr.units) (za 1) (zc (za 6) zd)))
      (zh (zd1 (zob PySem.F.plainAttrs_list PySem.F.slot_list_append PySem.F.type_list_append zgc (za 4) (zc (za 6) zd)))
      (zm (zd1 (zob PySem.F.plainAttrs_list PySem.F.slot_list_append PySem.F.type_list_append zgc (za 5) (zc (za 6) zd))))))
      zcm)))))
      (zb3 4 (zb3 5 (zm (zd1 (zob PySem.F.plainAttrs_list PySem.F.slot_list_append PySem.F.type_list_append zgc (za 2) (zc (zb8 zj5 T.zog zkd (zc (zar (zl (zcx hr.units) T.zdn zcy (zc (za 4) zd))) zd)) zd)))))))))
      zcm)))
      (zb3 2 (zb3 1 (zm (zbf (zar (zl (zcx hr.units) T.zdn zcy (zc (za 2) zd)))))))))
theorem zva (T : Txt P K mg) (zu : FnD P w K mg base 1 T.zbo T.zb5 ["cell"] zac) : FnD P w K mg base 2 T.zc4 T.zdh ["cells"] za3 :=
  fn_d T.zh8 zgl zsu (zuk T zu) zt0
theorem zlc [Bs] (T : Txt P K mg) (cdv : Value) (A : Around) (outer : List Env) (s : Shared) (H : Hp) (E : XK) (hr : Room 0 (A.deeper (envOfC "bright_cells" (defScope z9) s.heap.objs.size T.za1 cdv))) :
    PSsD (cxOf CX0 P w K mg base zdk "bright_cells" (defScope z9) T.za1 cdv A outer s H E).nox (defBody z9) zf6 :=
  (zh (zcp (i := 2) zbm.nd rfl (Or.inl rfl) (zd4 zd))
      (zh (ze8 PassesOwn.never rfl (zq4 T.zle (zc (za 0) zd)) (zea rfl (zw (zi (i := 3) zbm.nd rfl (Or.inr rfl)) (zw (zi (i := 4) zbm.nd rfl (Or.inl rfl)) zdc)))
      (zm (zhv (i := 2) zbm.nd rfl (Or.inl rfl) (zar (zc7 (own := [("x", 5), ("bright", 6)]) rfl zbm.nd (zq4 T.zle (zc (za 4) zd)) (blkOk_by (N := zdk) (sc := defScope z9) (by decide +kernel)) (fun _ _ _ _ _ => (zea rfl (zw (zi (i := 5) zbm.nd rfl (Or.inl rfl)) (zw (zi (i := 6) zbm.nd rfl (Or.inl rfl)) zdc)))) (fun _ _ _ _ _ => (zcf (z6 (zuw hr.units) (za 6) (za 1) (nomark _)))) (fun _ _ _ _ _ => (zck (zc (za 5) (zc (za 3) zd)))))) zg5)))
      (zb3 2 (zm (zbf (zar (zl (zcx hr.units) T.zdn zcy (zc (za 2) zd))))))))
theorem zk1 (T : Txt P K mg) : FnD P w K mg base 1 T.za1 T.zbw ["rows", "level"] zas :=
  fn_d T.zf5 zbm zjx (zlc T) zj0
theorem zny [Bs] (T : Txt P K mg) (za0 : FnD P w K mg base 1 T.za1 T.zbw ["rows", "level"] zas) (cdv : Value) (A : Around) (outer : List Env) (s : Shared) (H : Hp) (E : XK) (hr : Room 1 (A.deeper (envOfC "sure_cells" (defScope za9) s.heap.objs.size T.zbe cdv))) :
    PSsD (cxOf CX0 P w K mg base zfm "sure_cells" (defScope za9) T.zbe cdv A outer s H E).nox (defBody za9) zg6 :=
  (zm (zbf (zp za0 (hr.mono (by decide)) T.zhs T.zf5.kp T.zg9 (zc (za 0) (zc (zaj zdg (za 1) (za 2)) zd)))))
theorem zm3 (T : Txt P K mg) (za0 : FnD P w K mg base 1 T.za1 T.zbw ["rows", "level"] zas) : FnD P w K mg base 2 T.zbe T.zbz ["rows", "level", "slack"] zan :=
  fn_d T.zfp zno zl6 (zny T za0) zly
theorem zl8 [Bs] (T : Txt P K mg) (za0 : FnD P w K mg base 1 T.za1 T.zbw ["rows", "level"] zas) (cdv : Value) (A : Around) (outer : List Env) (s : Shared) (H : Hp) (E : XK) (hr : Room 1 (A.deeper (envOfC "maybe_cells" (defScope zau) s.heap.objs.size T.zat cdv))) :
    PSsD (cxOf CX0 P w K mg base zew "maybe_cells" (defScope zau) T.zat cdv A outer s H E).nox (defBody zau) zgx :=
  (zm (zbf (zp za0 (hr.mono (by decide)) T.zhs T.zf5.kp T.zg9 (zc (za 0) (zc (zaj zpv (za 1) (za 2)) zd)))))
theorem zmb (T : Txt P K mg) (za0 : FnD P w K mg base 1 T.za1 T.zbw ["rows", "level"] zas) : FnD P w K mg base 2 T.zat T.zbk ["rows", "level", "slack"] z8 :=
  fn_d T.ze3 zls zks (zl8 T za0) zlb
theorem zm5 [Bs] (T : Txt P K mg) (zao : FnD P w K mg base 2 T.zc4 T.zdh ["cells"] za3) (z4 : FnD P w K mg base 2 T.zat T.zbk ["rows", "level", "slack"] z8) (zaf : FnD P w K mg base 2 T.zbe T.zbz ["rows", "level", "slack"] zan) (cdv : Value) (A : Around) (outer : List Env) (s : Shared) (H : Hp) (E : XK) (hr : Room 2 (A.deeper (envOfC "sure_blobs" (defScope zaq) s.heap.objs.size T.za6 cdv))) :
    PSsD (cxOf CX0 P w K mg base zdv "sure_blobs" (defScope zaq) T.za6 cdv A outer s H E).nox (defBody zaq) zg2 :=
  (zh (zcp (i := 3) zcc.nd rfl (Or.inr rfl) (zar (zjn hr.units (own := [("cell", 4)]) rfl zcc.nd (zy (zp zaf (hr.mono (by decide)) T.zg8 T.zfp.kp T.zgg (zc (za 0) (zc (za 1) (zc (za 2) zd))))) (blkOk_by (N := zdv) (sc := defScope zaq) (by decide +kernel)) (fun _ _ _ _ _ => (zi (i := 4) zcc.nd rfl (Or.inl rfl))) (fun _ _ _ _ _ => za4) (fun _ _ _ _ _ => (za 4)) (fun _ _ _ _ _ => zfe))))
      (zm (zbf (zar (zc7 (own := [("blob", 5)]) rfl zcc.nd (zy (zp zao (hr.mono (by decide)) T.zjk T.zh8.kp T.zhk (zc (zp z4 (hr.mono (by decide)) T.zgu T.ze3.kp T.zf3 (zc (za 0) (zc (za 1) (zc (za 2) zd)))) zd))) (blkOk_by (N := zdv) (sc := defScope zaq) (by decide +kernel)) (fun _ _ _ _ _ => (zi (i := 5) zcc.nd rfl (Or.inl rfl))) (fun _ _ _ _ _ => (zcf (zpw (zl (zvz rfl) T.zyb zwh (zc (zar (zc7 (own := [("cell", 4)]) rfl zcc.nd (zy (za 5)) (blkOk_by (by kernel_rfl)) (fun _ _ _ _ _ => (zi (i := 4) zcc.nd rfl (Or.inl rfl))) (fun _ _ _ _ _ => za4) (fun _ _ _ _ _ => (zjo (znm (have h := DL.Room.u65 hr; h)) (za 4) (za 3) (by with_unfolding_all rfl))))) zd))))) (fun _ _ _ _ _ => (za 5)))))))
theorem zok (T : Txt P K mg) (zao : FnD P w K mg base 2 T.zc4 T.zdh ["cells"] za3) (z4 : FnD P w K mg base 2 T.zat T.zbk ["rows", "level", "slack"] z8) (zaf : FnD P w K mg base 2 T.zbe T.zbz ["rows", "level", "slack"] zan) : FnD P w K mg base 3 T.za6 T.zbv ["rows", "level", "slack"] zal :=
  fn_d T.zfn zcc zl9 (zm5 T zao z4 zaf) zma
theorem zr9 [Bs] (T : Txt P K mg) (cdv : Value) (A : Around) (outer : List Env) (s : Shared) (H : Hp) (E : XK) (hr : Room 0 (A.deeper (envOfC "size_by" (defScope zcq) s.heap.objs.size T.zdl cdv))) :
    PSsD (cxOf CX0 P w K mg base zha "size_by" (defScope zcq) T.zdl cdv A outer s H E).nox (defBody zcq) zkn :=
  (zm (zbf (zl (zwl rfl) T.zs1 zov (zc (zux (Classical.choose_spec T.zpx)) (zc (zaj zdg zk (zl zfr T.zie zfy (zc (zar (zc7 (own := [("step", 2)]) rfl zjg.nd (zy (za 1)) (blkOk_by (N := zha) (sc := defScope zcq) (by decide +kernel)) (fun _ _ _ _ _ => (zi (i := 2) zjg.nd rfl (Or.inl rfl))) (fun _ _ _ _ _ => (zcf (z6 (zuw hr.units) (za 0) (za 2) (nomark _)))) (fun _ _ _ _ _ => (za 2)))) zd))) zd)))))
theorem zr7 (T : Txt P K mg) : FnD P w K mg base 1 T.zdl T.zeo ["many", "steps"] zc2 :=
  fn_d T.zlj zjg zpz (zr9 T) zp3
theorem ztq [Bs] (T : Txt P K mg) (cdv : Value) (A : Around) (outer : List Env) (s : Shared) (H : Hp) (E : XK) (hr : Room 0 (A.deeper (envOfC "middle" (defScope zc5) s.heap.objs.size T.zei cdv))) :
    PSsD (cxOf CX0 P w K mg base zho "middle" (defScope zc5) T.zei cdv A outer s H E).nox (defBody zc5) znk :=
  (zh (zk6 (i := 1) (j := 2) rfl zeq.nd rfl rfl (by decide) rfl rfl (zc (zar (zc7 (own := [("x", 3), ("y", 4)]) rfl zeq.nd (zy (za 0)) (blkOk_by (N := zho) (sc := defScope zc5) (by decide +kernel)) (fun _ _ _ _ _ => (zea rfl (zw (zi (i := 3) zeq.nd rfl (Or.inl rfl)) (zw (zi (i := 4) zeq.nd rfl (Or.inl rfl)) zdc)))) (fun _ _ _ _ _ => za4) (fun _ _ _ _ _ => (za 4)))) (zc (zar (zc7 (own := [("x", 3), ("y", 4)]) rfl zeq.nd (zy (za 0)) (blkOk_by (N := zho) (sc := defScope zc5) (by decide +kernel)) (fun _ _ _ _ _ => (zea rfl (zw (zi (i := 3) zeq.nd rfl (Or.inl rfl)) (zw (zi (i := 4) zeq.nd rfl (Or.inl rfl)) zdc)))) (fun _ _ _ _ _ => za4) (fun _ _ _ _ _ => (za 3)))) zd)) (by with_unfolding_all rfl))
      (zm (zbf (zck (zc (zaj zkz (zaj zdg (zl (zn7 rfl) T.zs1 zov (zc (za 2) zd)) (zl (zjj rfl) T.zo5 zjq (zc (za 2) zd))) zk) (zc (zaj zkz (zaj zdg (zl (zn7 rfl) T.zs1 zov (zc (za 1) zd)) (zl (zjj rfl) T.zo5 zjq (zc (za 1) zd))) zk) zd))))))
theorem ztt (T : Txt P K mg) : FnD P w K mg base 1 T.zei T.zfs ["blob"] zdi :=
  fn_d T.znz zeq zrs (ztq T) zsc
theorem zl3 [Bs] (T : Txt P K mg) (zeh : FnD P w K mg base 1 T.zei T.zfs ["blob"] zdi) (zdj : FnD P w K mg base 1 T.zdl T.zeo ["many", "steps"] zc2) (zae : FnD P w K mg base 3 T.za6 T.zbv ["rows", "level", "slack"] zal) (cdv : Value) (A : Around) (outer : List Env) (s : Shared) (H : Hp) (E : XK) (hr : Room 3 (A.deeper (envOfC "sure_points" (defScope zam) s.heap.objs.size T.zcg cdv))) :
    PSsD (cxOf CX0 P w K mg base zd2 "sure_points" (defScope zam) T.zcg cdv A outer s H E).nox (defBody zam) zge :=
  (zm (zbf (zb8 zj5 T.zog zkd (zc (zar (zl (zcx hr.units) T.zdn zcy (zc (zar (zc7 (own := [("blob", 4)]) rfl zf4.nd (zy (zp zae (hr.mono (by decide)) T.zg1 T.zfn.kp T.zgh (zc (za 0) (zc (za 1) (zc (za 2) zd))))) (blkOk_by (N := zd2) (sc := defScope zam) (by decide +kernel)) (fun _ _ _ _ _ => (zi (i := 4) zf4.nd rfl (Or.inl rfl))) (fun _ _ _ _ _ => za4) (fun _ _ _ _ _ => (zck (zrp (zp zeh (hr.mono (by decide)) T.zrn T.znz.kp T.zpe (zc (za 4) zd)) (zc (zp zdj (hr.mono (by decide)) T.zpo T.zlj.kp T.zmo (zc (zl zfr T.zie zfy (zc (za 4) zd)) (zc (za 3) zd))) zd)))))) zd))) zd))))
theorem zlr (T : Txt P K mg) (zeh : FnD P w K mg base 1 T.zei T.zfs ["blob"] zdi) (zdj : FnD P w K mg base 1 T.zdl T.zeo ["many", "steps"] zc2) (zae : FnD P w K mg base 3 T.za6 T.zbv ["rows", "level", "slack"] zal) : FnD P w K mg base 4 T.zcg T.zdd ["rows", "level", "slack", "steps"] zcj :=
  fn_d T.ziz zf4 zk4 (zl3 T zeh zdj zae) zkv
theorem znu [Bs] (T : Txt P K mg) (U : DXK) (cdv : Value) (A : Around) (outer : List Env) (s : Shared) (H : Hp) (E : XK) (hr : Room 0 (A.deeper (envOfC "check_most" (defScope zaa) s.heap.objs.size T.za7 cdv)))
    (tk : Takes (cxOf (L2.CX P w) P w K mg base zcs "check_most" (defScope zaa) T.za7 cdv A outer s H E) (zi1 ⟨K, w⟩ U)) (po : PassesOwn (model P w) (cxOf (L2.CX P w) P w K mg base zcs "check_most" (defScope zaa) T.za7 cdv A outer s H E).A (cxOf (L2.CX P w) P w K mg base zcs "check_most" (defScope zaa) T.za7 cdv A outer s H E).env (cxOf (L2.CX P w) P w K mg base zcs "check_most" (defScope zaa) T.za7 cdv A outer s H E).xe) :
    PSsD (cxOf (L2.CX P w) P w K mg base zcs "check_most" (defScope zaa) T.za7 cdv A outer s H E) (defBody zaa) (zft U) :=
  (zm (zev (z6 (zx0 hr.units) (za 0) zk (nomark _))
      (zm (zpg rfl T.zmn T.zi3 hr tk (zc (za 0) zd)))
      zcm))
theorem zn4 (T : Txt P K mg) : FnX P w K mg base 1 T.za7 T.zdu ["most"] zcu :=
  fn_x (T := zft) T.zjr znw zl2 (znu T) zme
theorem zqc [Bs] (T : Txt P K mg) (cdv : Value) (A : Around) (outer : List Env) (s : Shared) (H : Hp) (E : XK) (hr : Room 0 (A.deeper (envOfC "do_touch" (defScope zbn) s.heap.objs.size T.zc1 cdv))) :
    PSsD (cxOf CX0 P w K mg base ze7 "do_touch" (defScope zbn) T.zc1 cdv A outer s H E).nox (defBody zbn) zi5 :=
  (zh (zk6 (i := 1) (j := 2) rfl zc9.nd rfl rfl (by decide) rfl rfl (zc (zar (zc7 (own := [("x", 3), ("y", 4)]) rfl zc9.nd (zy (za 0)) (blkOk_by (N := ze7) (sc := defScope zbn) (by decide +kernel)) (fun _ _ _ _ _ => (zea rfl (zw (zi (i := 3) zc9.nd rfl (Or.inl rfl)) (zw (zi (i := 4) zc9.nd rfl (Or.inl rfl)) zdc)))) (fun _ _ _ _ _ => za4) (fun _ _ _ _ _ => (za 4)))) (zc (zar (zc7 (own := [("x", 3), ("y", 4)]) rfl zc9.nd (zy (za 0)) (blkOk_by (N := ze7) (sc := defScope zbn) (by decide +kernel)) (fun _ _ _ _ _ => (zea rfl (zw (zi (i := 3) zc9.nd rfl (Or.inl rfl)) (zw (zi (i := 4) zc9.nd rfl (Or.inl rfl)) zdc)))) (fun _ _ _ _ _ => za4) (fun _ _ _ _ _ => (za 3)))) zd)) (by with_unfolding_all rfl))
      (zm (zbf (zyo (zjo (zrx hr.units) (za 0) (zex zd) (nomark _)) (ztx (zxd (zjo (zw8 hr.units) (zaj zpv (zl (zjj rfl) T.zo5 zjq (zc (za 1) zd)) (zl (zn7 rfl) T.zs1 zov (zc (za 1) zd))) zk (nomark _)) (ztx (zjo (zw8 hr.units) (zaj zpv (zl (zjj rfl) T.zo5 zjq (zc (za 2) zd)) (zl (zn7 rfl) T.zs1 zov (zc (za 2) zd))) zk (nomark _)))))))))
theorem zp2 (T : Txt P K mg) : FnD P w K mg base 1 T.zc1 T.zdr ["cells"] zcw :=
  fn_d T.zms zc9 zpd (zqc T) zpj
theorem zgd [Bs] (T : Txt P K mg) {R : DRn} (k : Nat) (hk : 2 + 1 ≤ k) (zao : FnD P w K mg base 2 T.zc4 T.zdh ["cells"] za3) (zca : FnD P w K mg base 1 T.zc1 T.zdr ["cells"] zcw) (zu : FnD P w K mg base 1 T.zbo T.zb5 ["cell"] zac) (zad : FnD P w K mg base (k) T.zbx T.zct ["cells"] R) (cdv : Value) (A : Around) (outer : List Env) (s : Shared) (H : Hp) (E : XK) (hr : Room k (A.deeper (envOfC "most_by_trying" (defScope zo) s.heap.objs.size T.zbc cdv))) :
    PSsD (cxOf CX0 P w K mg base zbb "most_by_trying" (defScope zo) T.zbc cdv A outer s H E).nox (defBody zo) (zc0 R) :=
  (zh (zcp (i := 1) zn.nd rfl (Or.inr rfl) (zar (zjn hr.units (own := [("cell", 7)]) rfl zn.nd (zy (za 0)) (blkOk_by (N := zbb) (sc := defScope zo) (by decide +kernel)) (fun _ _ _ _ _ => (zi (i := 7) zn.nd rfl (Or.inl rfl))) (fun _ _ _ _ _ => za4) (fun _ _ _ _ _ => (za 7)) (fun _ _ _ _ _ => zfe))))
      (zh (zg4 (i := 2) (own := [("cell", 7)]) rfl zn.nd rfl rfl (sw_true rfl rfl rfl (by decide +kernel)) (zy (za 0)) (blkOk_by (N := zbb) (sc := defScope zo) (by decide +kernel)) (fun _ _ _ _ _ => (zi (i := 7) zn.nd rfl (Or.inl rfl))) (fun _ _ _ _ _ => za4) (fun _ _ _ _ _ => (zck (zc (zl zfr T.zie zfy (zc (zar (zc7 (own := [("late", 8)]) rfl zn.nd (zy (zp zu (hr.mono (by omega)) T.ze6 T.zeb.kp T.zd8 (zc (za 7) zd))) (blkOk_by (by kernel_rfl)) (fun _ _ _ _ _ => (zi (i := 8) zn.nd rfl (Or.inl rfl))) (fun _ _ _ _ _ => (zcf (z6 (znm (have h := DL.Room.u65 hr; h)) (za 8) (za 1) (by with_unfolding_all rfl)))) (fun _ _ _ _ _ => (za 8)))) zd)) (zc (za 7) zd)))))
      (zb3 2 (zh (zhz (zl (zww rfl hr.units) T.zo5 zjq (zc (za 2) zd)) (zea rfl (zw (zi (i := 3) zn.nd rfl (Or.inl rfl)) (zw (zi (i := 4) zn.nd rfl (Or.inr rfl)) zdc))))
      (zh (zg4 (i := 5) (own := [("cell", 7)]) rfl zn.nd rfl rfl (sw_true rfl rfl rfl (by decide +kernel)) (zy (za 0)) (blkOk_by (N := zbb) (sc := defScope zo) (by decide +kernel)) (fun _ _ _ _ _ => (zi (i := 7) zn.nd rfl (Or.inl rfl))) (fun _ _ _ _ _ => (zcf (z6 (zjv hr.units) (za 7) (za 4) (nomark _)))) (fun _ _ _ _ _ => (za 7)))
      (zb3 5 (zh (zg4 (i := 6) (own := [("cell", 7)]) rfl zn.nd rfl rfl (sw_true rfl rfl rfl (by decide +kernel)) (zy (za 5)) (blkOk_by (N := zbb) (sc := defScope zo) (by decide +kernel)) (fun _ _ _ _ _ => (zi (i := 7) zn.nd rfl (Or.inl rfl))) (fun _ _ _ _ _ => (zcf (z6 (zhg (have h := DL.Room.u65 hr; h)) (za 7) (zp zu (hr.mono (by omega)) T.ze6 T.zeb.kp T.zd8 (zc (za 4) zd)) (by with_unfolding_all rfl)))) (fun _ _ _ _ _ => (za 7)))
      (zb3 6 (zm (zbf (zl (zxi rfl) T.zo5 zjq (zc (zp zad (hr.mono (by omega)) T.zfz T.zdw.kp T.zey (zc (za 5) zd)) (zc (zaj zdg zk (zp zad (hr.mono (by omega)) T.zfz T.zdw.kp T.zey (zc (za 6) zd))) zd)))))))))))))
theorem znv [Bs] (T : Txt P K mg) {R0 R1 : DRn} (k : Nat) (hk : 2 + 1 ≤ k) (k1 : Nat) (hk1 : k1 ≤ k) (zao : FnD P w K mg base 2 T.zc4 T.zdh ["cells"] za3) (zca : FnD P w K mg base 1 T.zc1 T.zdr ["cells"] zcw) (zu : FnD P w K mg base 1 T.zbo T.zb5 ["cell"] zac) (zdo : FnD P w K mg base (k) T.zbc T.zb6 ["cells"] R0) (zad : FnD P w K mg base (k1) T.zbx T.zct ["cells"] R1) (cdv : Value) (A : Around) (outer : List Env) (s : Shared) (H : Hp) (E : XK) (hr : Room k (A.deeper (envOfC "most_apart" (defScope zab) s.heap.objs.size T.zbx cdv))) :
    PSsD (cxOf CX0 P w K mg base zcr "most_apart" (defScope zab) T.zbx cdv A outer s H E).nox (defBody zab) (zfv R0 R1) :=
  (zh (zhz (zck (zc (zjn hr.units (own := [("cell", 4)]) rfl zr.nd (zy (za 0)) (blkOk_by (N := zcr) (sc := defScope zab) (by decide +kernel)) (fun _ _ _ _ _ => (zi (i := 4) zr.nd rfl (Or.inl rfl))) (fun _ _ _ _ _ => za4) (fun _ _ _ _ _ => (za 4)) (fun _ _ _ _ _ => zfe)) (zc zk (zc (zl (zr3 hr.units) T.zdn zcy (zc (za 0) zd)) zd)))) (zea rfl (zw (zi (i := 1) zr.nd rfl (Or.inr rfl)) (zw (zi (i := 2) zr.nd rfl (Or.inl rfl)) (zw (zi (i := 3) zr.nd rfl (Or.inl rfl)) zdc)))))
      (zh (zoq PassesOwn.never (z6 (zjv hr.units) (za 3) (zex zd) (nomark _))
      (zh (zcp (i := 4) zr.nd rfl (Or.inl rfl) (zvt PySem.F.plainAttrs_list PySem.F.slot_list_pop PySem.F.type_list_pop zv6 (za 3)))
      (zh (zg4 (i := 5) (own := [("other", 6)]) rfl zr.nd rfl rfl (sw_true rfl rfl rfl (by decide +kernel)) (zy (zp zu (hr.mono (by omega)) T.ze6 T.zeb.kp T.zd8 (zc (za 4) zd))) (blkOk_by (N := zcr) (sc := defScope zab) (by decide +kernel)) (fun _ _ _ _ _ => (zi (i := 6) zr.nd rfl (Or.inl rfl))) (fun _ _ _ _ _ => (zcf (z6 (znm (have h := DL.Room.u65 hr; h)) (za 6) (za 1) (by with_unfolding_all rfl)))) (fun _ _ _ _ _ => (za 6)))
      (zb3 5 (zm (zev (zuo (ztc (z6 (znm (have h := DL.Room.u65 hr; h)) (za 4) (za 1) (by with_unfolding_all rfl)) (zrm (zpw (zp zca (hr.mono (by omega)) T.zrw T.zms.kp T.zql (zc (za 5) zd))))))
      (zh (zhv (i := 2) zr.nd rfl (Or.inl rfl) zk zg5)
      (zm (ze8 PassesOwn.never rfl (zy (zex (zc (za 4) (zrp (za 5) zd)))) (zi (i := 6) zr.nd rfl (Or.inl rfl))
      (zh (zd1 (zob PySem.F.plainAttrs_dict PySem.F.slot_dict_pop PySem.F.type_dict_pop (zm9 hr.units) (za 1) (zc (za 6) zd)))
      (zm (zhv (i := 3) zr.nd rfl (Or.inl rfl) (zar (zc7 (own := [("one", 8)]) rfl zr.nd (zy (zp zu (hr.mono (by omega)) T.ze6 T.zeb.kp T.zd8 (zc (za 6) zd))) (blkOk_by (N := zcr) (sc := defScope zab) (by decide +kernel)) (fun _ _ _ _ _ => (zi (i := 8) zr.nd rfl (Or.inl rfl))) (fun _ _ _ _ _ => (zcf (z6 (znm (have h := DL.Room.u65 hr; h)) (za 8) (za 1) (by with_unfolding_all rfl)))) (fun _ _ _ _ _ => (za 8)))) zg5))))))
      zcm))))))
      (zb3 3 (zb3 1 (zh (zcp (i := 7) zr.nd rfl (Or.inl rfl) (zp zao (hr.mono (by omega)) T.zjk T.zh8.kp T.zhk (zc (zar (zb8 (zub rfl) T.zyx zxr (zc (za 1) zd))) zd)))
      (zh (zev (z6 (zwx hr.units) (zl zfr T.zie zfy (zc (za 7) zd)) zk (nomark _))
      (zm (zbf (zaj zdg (za 2) (zl (zv4 rfl) T.zxy zwa (zc (zar (zc7 (own := [("part", 9)]) rfl zr.nd (zy (za 7)) (blkOk_by (N := zcr) (sc := defScope zab) (by decide +kernel)) (fun _ _ _ _ _ => (zi (i := 9) zr.nd rfl (Or.inl rfl))) (fun _ _ _ _ _ => za4) (fun _ _ _ _ _ => (zp zad (hr.mono (by omega)) T.zfz T.zdw.kp T.zey (zc (za 9) zd))))) zd)))))
      zcm)
      (zm (zbf (zt4 (z6 (zrx hr.units) (za 7) (zex zd) (nomark _)) (za 2) (zaj zdg (za 2) (zp zdo (hr.mono (by omega)) T.zjz T.zet.kp T.zjm (zc (zhr (ixd hr.units) (za 7) zk) zd))))))))))))
theorem zgs (T : Txt P K mg) (zao : FnD P w K mg base 2 T.zc4 T.zdh ["cells"] za3) (zca : FnD P w K mg base 1 T.zc1 T.zdr ["cells"] zcw) (zu : FnD P w K mg base 1 T.zbo T.zb5 ["cell"] zac) : ∀ n, FnD P w K mg base (2 + 1 + 2 * n) T.zbx T.zct ["cells"] (zak n)
  | 0 => fn_d (T := zxt) T.zdw zr (zhq 0) (fun _ _ _ _ _ _ _ => zsr) fun ds G Q h => (zns ds G Q h).elim
  | n + 1 => by
    have zad := zgs T zao zca zu n
    have zdo : FnD P w K mg base (2 + 1 + 2 * n + 1) T.zbc T.zb6 ["cells"] (zbi n) := fn_d (T := zc0 (zak n)) T.zet zn (zfx n) (fun cdv A outer s H E hr => zgd T _ (by omega) zao zca zu zad cdv A outer s H E hr) (zfq n)
    have e : 2 + 1 + 2 * n + 1 + 1 = 2 + 1 + 2 * (n + 1) := by omega
    rw [← e]
    exact fn_d (T := zfv (zbi n) (zak n)) T.zdw zr (zhq (n + 1)) (fun cdv A outer s H E hr => znv T _ (by omega) _ (by omega) zao zca zu zdo zad cdv A outer s H E hr) (zl1 n)
theorem zjp (T : Txt P K mg) (zao : FnD P w K mg base 2 T.zc4 T.zdh ["cells"] za3) (zca : FnD P w K mg base 1 T.zc1 T.zdr ["cells"] zcw) (zu : FnD P w K mg base 1 T.zbo T.zb5 ["cell"] zac) (n : Nat) : FnD P w K mg base (2 + 1 + 2 * n + 1) T.zbc T.zb6 ["cells"] (zbi n) := by
    have zad := zgs T zao zca zu n
    exact fn_d (T := zc0 (zak n)) T.zet zn (zfx n) (fun cdv A outer s H E hr => zgd T _ (by omega) zao zca zu zad cdv A outer s H E hr) (zfq n)
theorem zm7 [Bs] (T : Txt P K mg) (zao : FnD P w K mg base 2 T.zc4 T.zdh ["cells"] za3) (zad : FnD P w K mg base 19 T.zbx T.zct ["cells"] (zak 8)) (zu : FnD P w K mg base 1 T.zbo T.zb5 ["cell"] zac) (U : DXK) (cdv : Value) (A : Around) (outer : List Env) (s : Shared) (H : Hp) (E : XK) (hr : Room 19 (A.deeper (envOfC "most_parts" (defScope zt) s.heap.objs.size T.zba cdv)))
    (tk : Takes (cxOf (L2.CX P w) P w K mg base za8 "most_parts" (defScope zt) T.zba cdv A outer s H E) (zi1 ⟨K, w⟩ U)) (po : PassesOwn (model P w) (cxOf (L2.CX P w) P w K mg base za8 "most_parts" (defScope zt) T.zba cdv A outer s H E).A (cxOf (L2.CX P w) P w K mg base za8 "most_parts" (defScope zt) T.zba cdv A outer s H E).env (cxOf (L2.CX P w) P w K mg base za8 "most_parts" (defScope zt) T.zba cdv A outer s H E).xe) :
    PSsD (cxOf (L2.CX P w) P w K mg base za8 "most_parts" (defScope zt) T.zba cdv A outer s H E) (defBody zt) (zfo U) :=
  (zh (zk6 (i := 3) (j := 4) rfl zaw.nd rfl rfl (by decide) rfl rfl (zc (zar (zc7 (own := [("cell", 6)]) rfl zaw.nd (zy (za 0)) (blkOk_by (N := za8) (sc := defScope zt) (by decide +kernel)) (fun _ _ _ _ _ => (zi (i := 6) zaw.nd rfl (Or.inl rfl))) (fun _ _ _ _ _ => (zcf (z6 (zhg (have h := DL.Room.u65 hr; h)) (za 6) (za 1) (by with_unfolding_all rfl)))) (fun _ _ _ _ _ => (za 6)))) (zc (zar (zc7 (own := [("cell", 6)]) rfl zaw.nd (zy (za 0)) (blkOk_by (N := za8) (sc := defScope zt) (by decide +kernel)) (fun _ _ _ _ _ => (zi (i := 6) zaw.nd rfl (Or.inl rfl))) (fun _ _ _ _ _ => (zcf (z6 (znm (have h := DL.Room.u65 hr; h)) (za 6) (za 1) (by with_unfolding_all rfl)))) (fun _ _ _ _ _ => (za 6)))) zd)) (by with_unfolding_all rfl))
      (zh (zev (z6 (zuw hr.units) (zl zfr T.zie zfy (zc (za 3) zd)) (za 2) (nomark _))
      (zm (zpg rfl T.zmn T.zi3 hr tk (zc (za 2) zd)))
      zcm)
      (zh (zcp (i := 5) zaw.nd rfl (Or.inr rfl) (zar (zvp (own := [("cell", 6), ("late", 7)]) (own1 := [7]) hr.units rfl zaw.nd (zy (za 4)) (blkOk_by (N := za8) (sc := defScope zt) (by decide +kernel)) (fun _ _ _ _ _ => (zi (i := 6) zaw.nd rfl (Or.inl rfl))) (fun _ _ _ _ _ => za4) (fun _ _ _ _ _ => (zy (zp zu (hr.mono (by decide)) T.ze6 T.zeb.kp T.zd8 (zc (za 6) zd)))) (fun _ _ _ _ _ => (zi (i := 7) zaw.nd rfl (Or.inl rfl))) (fun _ _ _ _ _ => za4) (fun _ _ _ _ _ => (za 7)) (fun _ _ _ _ _ => zfe))))
      (zm (zbf (zaj zdg (zl zfr T.zie zfy (zc (zp zao (hr.mono (by decide)) T.zjk T.zh8.kp T.zhk (zc (za 4) zd)) zd)) (zp zad (hr.mono (by decide)) T.zfz T.zdw.kp T.zey (zc (zar (zc7 (own := [("cell", 6)]) rfl zaw.nd (zy (za 3)) (blkOk_by (N := za8) (sc := defScope zt) (by decide +kernel)) (fun _ _ _ _ _ => (zi (i := 6) zaw.nd rfl (Or.inl rfl))) (fun _ _ _ _ _ => (zcf (z6 (zhg (have h := DL.Room.u65 hr; h)) (za 6) (za 5) (by with_unfolding_all rfl)))) (fun _ _ _ _ _ => (za 6)))) zd))))))))
theorem zoa (T : Txt P K mg) (zao : FnD P w K mg base 2 T.zc4 T.zdh ["cells"] za3) (zad : FnD P w K mg base 19 T.zbx T.zct ["cells"] (zak 8)) (zu : FnD P w K mg base 1 T.zbo T.zb5 ["cell"] zac) : FnX P w K mg base 20 T.zba T.zdx ["blob", "sure", "most"] zcv :=
  fn_x (T := zfo) T.zjt zaw zmc (zm7 T zao zad zu) zlz
theorem zjf [Bs] (T : Txt P K mg) (zao : FnD P w K mg base 2 T.zc4 T.zdh ["cells"] za3) (z4 : FnD P w K mg base 2 T.zat T.zbk ["rows", "level", "slack"] z8) (zae : FnD P w K mg base 3 T.za6 T.zbv ["rows", "level", "slack"] zal) (cdv : Value) (A : Around) (outer : List Env) (s : Shared) (H : Hp) (E : XK) (hr : Room 3 (A.deeper (envOfC "doubtful_blobs" (defScope zq) s.heap.objs.size T.zag cdv))) :
    PSsD (cxOf CX0 P w K mg base zb9 "doubtful_blobs" (defScope zq) T.zag cdv A outer s H E).nox (defBody zq) zes :=
  (zh (zcp (i := 3) zb1.nd rfl (Or.inr rfl) (zar (zjn hr.units (own := [("blob", 4)]) rfl zb1.nd (zy (zp zae (hr.mono (by decide)) T.zg1 T.zfn.kp T.zgh (zc (za 0) (zc (za 1) (zc (za 2) zd))))) (blkOk_by (N := zb9) (sc := defScope zq) (by decide +kernel)) (fun _ _ _ _ _ => (zi (i := 4) zb1.nd rfl (Or.inl rfl))) (fun _ _ _ _ _ => za4) (fun _ _ _ _ _ => (za 4)) (fun _ _ _ _ _ => zfe))))
      (zm (zbf (zar (zc7 (own := [("blob", 4)]) rfl zb1.nd (zy (zp zao (hr.mono (by decide)) T.zjk T.zh8.kp T.zhk (zc (zp z4 (hr.mono (by decide)) T.zgu T.ze3.kp T.zf3 (zc (za 0) (zc (za 1) (zc (za 2) zd)))) zd))) (blkOk_by (N := zb9) (sc := defScope zq) (by decide +kernel)) (fun _ _ _ _ _ => (zi (i := 4) zb1.nd rfl (Or.inl rfl))) (fun _ _ _ _ _ => (zcf (z6 (zhg (have h := DL.Room.u65 hr; h)) (za 4) (za 3) (by with_unfolding_all rfl)))) (fun _ _ _ _ _ => (za 4)))))))
theorem zjh (T : Txt P K mg) (zao : FnD P w K mg base 2 T.zc4 T.zdh ["cells"] za3) (z4 : FnD P w K mg base 2 T.zat T.zbk ["rows", "level", "slack"] z8) (zae : FnD P w K mg base 3 T.za6 T.zbv ["rows", "level", "slack"] zal) : FnD P w K mg base 4 T.zag T.za5 ["rows", "level", "slack"] z3 :=
  fn_d T.zdp zb1 zii (zjf T zao z4 zae) zid
theorem znq [Bs] (T : Txt P K mg) (zel : FnX P w K mg base 1 T.za7 T.zdu ["most"] zcu) (z7 : FnD P w K mg base 4 T.zag T.za5 ["rows", "level", "slack"] z3) (zen : FnX P w K mg base 20 T.zba T.zdx ["blob", "sure", "most"] zcv) (zaf : FnD P w K mg base 2 T.zbe T.zbz ["rows", "level", "slack"] zan) (U : DXK) (cdv : Value) (A : Around) (outer : List Env) (s : Shared) (H : Hp) (E : XK) (hr : Room 20 (A.deeper (envOfC "most_spots" (defScope z2) s.heap.objs.size T.zbd cdv)))
    (tk : Takes (cxOf (L2.CX P w) P w K mg base zbu "most_spots" (defScope z2) T.zbd cdv A outer s H E) (zi1 ⟨K, w⟩ U)) (po : PassesOwn (model P w) (cxOf (L2.CX P w) P w K mg base zbu "most_spots" (defScope z2) T.zbd cdv A outer s H E).A (cxOf (L2.CX P w) P w K mg base zbu "most_spots" (defScope z2) T.zbd cdv A outer s H E).env (cxOf (L2.CX P w) P w K mg base zbu "most_spots" (defScope z2) T.zbd cdv A outer s H E).xe) :
    PSsD (cxOf (L2.CX P w) P w K mg base zbu "most_spots" (defScope z2) T.zbd cdv A outer s H E) (defBody z2) (zfu U) :=
  (zh (zd1 (zlo zel (hr.mono (by decide)) T.zpa T.zjr.kp T.zof tk (zc (za 3) zd)))
      (zh (zcp (i := 4) zdf.nd rfl (Or.inr rfl) (zar (zjn hr.units (own := [("cell", 5)]) rfl zdf.nd (zy (zp zaf (hr.mono (by decide)) T.zg8 T.zfp.kp T.zgg (zc (za 0) (zc (za 1) (zc (za 2) zd))))) (blkOk_by (N := zbu) (sc := defScope z2) (by decide +kernel)) (fun _ _ _ _ _ => (zi (i := 5) zdf.nd rfl (Or.inl rfl))) (fun _ _ _ _ _ => za4) (fun _ _ _ _ _ => (za 5)) (fun _ _ _ _ _ => zfe))))
      (zm (zbf (zl (zv4 rfl) T.zxy zwa (zc (zar (zxp (own := [("blob", 6)]) rfl zdf.nd rfl rfl tk (zy (zp z7 (hr.mono (by decide)) T.zer T.zdp.kp T.zed (zc (za 0) (zc (za 1) (zc (za 2) zd))))) (blkOk_by (N := zbu) (sc := defScope z2) (by decide +kernel)) (fun _ _ _ _ _ _ => (zi (i := 6) zdf.nd rfl (Or.inl rfl))) (fun _ _ _ _ _ _ => za4) (fun _ _ _ _ _ _ hp => (zsd zen (hr.mono (by decide)) T.zpr T.zjt.kp T.zn2 hp (zc (za 6) (zc (za 4) (zc (za 3) zd))))))) zd))))))
theorem zm6 (T : Txt P K mg) (zel : FnX P w K mg base 1 T.za7 T.zdu ["most"] zcu) (z7 : FnD P w K mg base 4 T.zag T.za5 ["rows", "level", "slack"] z3) (zen : FnX P w K mg base 20 T.zba T.zdx ["blob", "sure", "most"] zcv) (zaf : FnD P w K mg base 2 T.zbe T.zbz ["rows", "level", "slack"] zan) : FnX P w K mg base 21 T.zbd T.zdt ["rows", "level", "slack", "most"] zch :=
  fn_x (T := zfu) T.zhc zdf zlv (znq T zel z7 zen zaf) zl4
theorem zl5 [Bs] (T : Txt P K mg) (cdv : Value) (A : Around) (outer : List Env) (s : Shared) (H : Hp) (E : XK) (hr : Room 0 (A.deeper (envOfC "_law_number" (defScope zav) s.heap.objs.size T.zce cdv))) :
    PSsD (cxOf CX0 P w K mg base zez "_law_number" (defScope zav) T.zce cdv A outer s H E).nox (defBody zav) zgp :=
  (zh (zhz (zt4 (z6 (zjv hr.units) (za 0) (zex zd) (nomark _)) (zck (zc (zhr (ixd hr.units) (za 0) (zaj zk0 (za 1) (zl zfr T.zie zfy (zc (za 0) zd)))) (zc (zaj zkz (za 1) (zl zfr T.zie zfy (zc (za 0) zd))) zd))) (zck (zc zk (zc zk zd)))) (zea rfl (zw (zi (i := 2) zby.nd rfl (Or.inl rfl)) (zw (zi (i := 3) zby.nd rfl (Or.inl rfl)) zdc))))
      (zh (zcp (i := 4) zby.nd rfl (Or.inl rfl) (zt4 (z6 (zx0 hr.units) (za 3) zk (nomark _)) (zaj zpv (za 2) (zaj zx1 zk zk)) zk))
      (zh (ze8 PassesOwn.never rfl (ze5 T.zi6 (zc (zaj zk0 (zb8 zlk T.zqp zlg (zc (za 3) zd)) zk) zd)) (zi (i := 5) zby.nd rfl (Or.inl rfl))
      (zm (zcp (i := 4) zby.nd rfl (Or.inl rfl) (zaj zkz (za 4) zk))))
      (zh (zev (z6 (zwx hr.units) (za 4) zk (nomark _))
      (zm (zbf (zaj zk0 (zb8 zlk T.zqp zlg (zc (za 4) zd)) zk)))
      zcm)
      (zh (zcp (i := 6) zby.nd rfl (Or.inl rfl) (zaj zk0 (zaj zdg (zaj zmk (zb8 zlk T.zqp zlg (zc (zaj zdg (za 2) (zaj zmk zk (za 1))) zd)) zk) (zaj zmk zk (zl zfr T.zie zfy (zc (za 0) zd)))) zk))
      (zh (zcp (i := 6) zby.nd rfl (Or.inl rfl) (zaj zk0 (zaj zdg (zaj zmk (za 6) (za 6)) (zaj zmk zk (za 1))) zk))
      (zm (zbf (zb8 zlk T.zqp zlg (zc (zaj zk0 (zaj zdg (zaj zmk (za 6) zk) (zaj zkz (za 6) zk)) zk) zd))))))))))
theorem zlq (T : Txt P K mg) : FnD P w K mg base 1 T.zce T.zde ["script", "index"] zci :=
  fn_d T.zim zby zkk (zl5 T) zlh
theorem zox [Bs] (T : Txt P K mg) (zd0 : FnD P w K mg base 1 T.zce T.zde ["script", "index"] zci) (cdv : Value) (A : Around) (outer : List Env) (s : Shared) (H : Hp) (E : XK) (hr : Room 1 (A.deeper (envOfC "_law_take" (defScope zbq) s.heap.objs.size T.zcl cdv))) :
    PSsD (cxOf CX0 P w K mg base zgn "_law_take" (defScope zbq) T.zcl cdv A outer s H E).nox (defBody zbq) zh3 :=
  (zh (zu2 (za 0) zk zu8 zk zg5 (zyi hr.units))
      (zm (zbf (zaj zk0 (zb8 zlk T.zqp zlg (zc (zp zd0 (hr.mono (by decide)) T.znt T.zim.kp T.zmd (zc (zhr (ixd hr.units) (za 0) zk) (zc (zb8 zlk T.zqp zlg (zc (zhr (ixd hr.units) (za 0) zk) zd)) zd))) zd)) (za 1)))))
theorem zo6 (T : Txt P K mg) (zd0 : FnD P w K mg base 1 T.zce T.zde ["script", "index"] zci) : FnD P w K mg base 2 T.zcl T.zda ["draw", "many"] zap :=
  fn_d T.zfb zpm zm4 (zox T zd0) znl
theorem zos [Bs] (T : Txt P K mg) (zbr : FnD P w K mg base 2 T.zcl T.zda ["draw", "many"] zap) (cdv : Value) (A : Around) (outer : List Env) (s : Shared) (H : Hp) (E : XK) (hr : Room 2 (A.deeper (envOfC "_law_pick" (defScope zbs) s.heap.objs.size T.zdb cdv))) :
    PSsD (cxOf CX0 P w K mg base zgj "_law_pick" (defScope zbs) T.zdb cdv A outer s H E).nox (defBody zbs) zhy :=
  (zm (zbf (zhr (ixd hr.units) (za 1) (zp zbr (hr.mono (by decide)) T.zgq T.zfb.kp T.zfw (zc (za 0) (zc (zl zfr T.zie zfy (zc (za 1) zd)) zd))))))
theorem zow (T : Txt P K mg) (zbr : FnD P w K mg base 2 T.zcl T.zda ["draw", "many"] zap) : FnD P w K mg base 3 T.zdb T.zec ["draw", "items"] zc8 :=
  fn_d T.zkj zpb znd (zos T zbr) zom
theorem zyz [Bs] (T : Txt P K mg) (zff : FnD P w K mg base 3 T.zdb T.zec ["draw", "items"] zc8) (zbr : FnD P w K mg base 2 T.zcl T.zda ["draw", "many"] zap) (zao : FnD P w K mg base 2 T.zc4 T.zdh ["cells"] za3) (z7 : FnD P w K mg base 4 T.zag T.za5 ["rows", "level", "slack"] z3) (z4 : FnD P w K mg base 2 T.zat T.zbk ["rows", "level", "slack"] z8) (zeh : FnD P w K mg base 1 T.zei T.zfs ["blob"] zdi) (zds : FnX P w K mg base 21 T.zbd T.zdt ["rows", "level", "slack", "most"] zch) (zdj : FnD P w K mg base 1 T.zdl T.zeo ["many", "steps"] zc2) (zae : FnD P w K mg base 3 T.za6 T.zbv ["rows", "level", "slack"] zal) (zaf : FnD P w K mg base 2 T.zbe T.zbz ["rows", "level", "slack"] zan) (zd6 : FnD P w K mg base 4 T.zcg T.zdd ["rows", "level", "slack", "steps"] zcj) (cdv : Value) (A : Around) (outer : List Env) (s : Shared) (H : Hp) (E : XK) (hr : Room 21 (A.deeper (envOfC "law" (defScope zfk) s.heap.objs.size T.zr1 cdv))) :
    PSsD (cxOf CX0 P w K mg base zll "law" (defScope zfk) T.zr1 cdv A outer s H E).nox (defBody zfk) zxk :=
  (zh (zcp (i := 1) zai.nd rfl (Or.inl rfl) (zd4 (zc (za 0) (zc zk zd))))
      (zh (zhz (zck (zc (zaj zdg zk (zp zbr (hr.mono (by decide)) T.zgq T.zfb.kp T.zfw (zc (za 1) (zc zk zd)))) (zc (zaj zdg zk (zp zbr (hr.mono (by decide)) T.zgq T.zfb.kp T.zfw (zc (za 1) (zc zk zd)))) (zc zk (zc (zaj zdg zk (zp zbr (hr.mono (by decide)) T.zgq T.zfb.kp T.zfw (zc (za 1) (zc zk zd)))) zd))))) (zea rfl (zw (zi (i := 2) zai.nd rfl (Or.inl rfl)) (zw (zi (i := 3) zai.nd rfl (Or.inl rfl)) (zw (zi (i := 4) zai.nd rfl (Or.inl rfl)) (zw (zi (i := 5) zai.nd rfl (Or.inl rfl)) zdc))))))
      (zh (zhz (zck (zc (zd4 zd) (zc zk zd))) (zea rfl (zw (zi (i := 6) zai.nd rfl (Or.inr rfl)) (zw (zi (i := 7) zai.nd rfl (Or.inl rfl)) zdc))))
      (zh (ze8 PassesOwn.never rfl (ze5 T.zi6 (zc (za 3) zd)) (zi (i := 8) zai.nd rfl (Or.inr rfl))
      (zh (zcp (i := 9) zai.nd rfl (Or.inl rfl) (zd4 zd))
      (zh (ze8 PassesOwn.never rfl (ze5 T.zi6 (zc (za 2) zd)) (zi (i := 10) zai.nd rfl (Or.inl rfl))
      (zh (zcp (i := 11) zai.nd rfl (Or.inl rfl) (zp zff (hr.mono (by decide)) T.zp5 T.zkj.kp T.zpt (zc (za 1) (zc (zex (zc zk (zc zk (zc zk (zc zk (zc zk (zc zk zd))))))) zd))))
      (zh (zev (zuo (ztc (z6 (zrx hr.units) (za 11) zk (nomark _)) (zrm (z6 (zrx hr.units) (za 7) zk (nomark _)))))
      (zm (zcp (i := 11) zai.nd rfl (Or.inl rfl) zk))
      zcm)
      (zh (zhv (i := 7) zai.nd rfl (Or.inl rfl) (zb8 zlk T.zqp zlg (zc (zjo (zrx hr.units) (za 11) zk (nomark _)) zd)) zg5)
      (zm (zd1 (zob PySem.F.plainAttrs_list PySem.F.slot_list_append PySem.F.type_list_append zgc (za 9) (zc (za 11) zd))))))))
      (zb3 9 (zm (zd1 (zob PySem.F.plainAttrs_list PySem.F.slot_list_append PySem.F.type_list_append zgc (za 6) (zc (zb8 zj5 T.zog zkd (zc (za 9) zd)) zd))))))))
      (zb3 6 (zh (zhz (zck (zc (zd4 zd) (zc (zd4 zd) zd))) (zea rfl (zw (zi (i := 12) zai.nd rfl (Or.inr rfl)) (zw (zi (i := 13) zai.nd rfl (Or.inl rfl)) zdc))))
      (zh (ze8 PassesOwn.never rfl (ze5 T.zi6 (zc (za 3) zd)) (zi (i := 8) zai.nd rfl (Or.inr rfl))
      (zh (zhv (i := 12) zai.nd rfl (Or.inr rfl) (zar (zc7 (own := [("x", 10)]) rfl zai.nd (ze5 T.zi6 (zc (za 2) zd)) (blkOk_by (N := zll) (sc := defScope zfk) (by decide +kernel)) (fun _ _ _ _ _ => (zi (i := 10) zai.nd rfl (Or.inl rfl))) (fun _ _ _ _ _ => (zcf (z6 (zrx hr.units) (zhr (ixd hr.units) (zhr (ixd hr.units) (za 6) (za 8)) (za 10)) zk (nomark _)))) (fun _ _ _ _ _ => (zck (zc (za 10) (zc (za 8) zd)))))) zg5)
      (zm (zhv (i := 13) zai.nd rfl (Or.inl rfl) (zar (zc7 (own := [("x", 10)]) rfl zai.nd (ze5 T.zi6 (zc (za 2) zd)) (blkOk_by (N := zll) (sc := defScope zfk) (by decide +kernel)) (fun _ _ _ _ _ => (zi (i := 10) zai.nd rfl (Or.inl rfl))) (fun _ _ _ _ _ => (zcf (z6 (zuw hr.units) (zhr (ixd hr.units) (zhr (ixd hr.units) (za 6) (za 8)) (za 10)) zk (nomark _)))) (fun _ _ _ _ _ => (zck (zc (za 10) (zc (za 8) zd)))))) zg5))))
      (zb3 13 (zb3 12 (zh (zev (zuo (zvv (z6 (zjv hr.units) (zp zaf (hr.mono (by decide)) T.zg8 T.zfp.kp T.zgg (zc (za 6) (zc (za 4) (zc (za 5) zd)))) (zar (zl (zcx hr.units) T.zdn zcy (zc (za 12) zd))) (nomark _)) (zti (z6 (zjv hr.units) (zp z4 (hr.mono (by decide)) T.zgu T.ze3.kp T.zf3 (zc (za 6) (zc (za 4) (zc (za 5) zd)))) (zar (zl (zcx hr.units) T.zdn zcy (zc (za 13) zd))) (nomark _)))))
      (zm (zbf zfe))
      zcm)
      (zh (zcp (i := 14) zai.nd rfl (Or.inl rfl) (zd4 (zc (zar (zl (zcx hr.units) T.zdn zcy (zc (za 12) zd))) zd)))
      (zh (ze8 PassesOwn.never rfl (zy (za 13)) (zi (i := 15) zai.nd rfl (Or.inr rfl))
      (zm (zev (z6 (zhg (have h := DL.Room.u65 hr; h)) (za 15) (za 12) (by with_unfolding_all rfl))
      (zm (zhv (i := 14) zai.nd rfl (Or.inl rfl) (zar (zc7 (own := [("case", 23)]) rfl zai.nd (zy (za 14)) (blkOk_by (N := zll) (sc := defScope zfk) (by decide +kernel)) (fun _ _ _ _ _ => (zi (i := 23) zai.nd rfl (Or.inl rfl))) (fun _ _ _ _ _ => za4) (fun _ _ _ _ _ => (zar (zl (zcx hr.units) T.zdn zcy (zc (zaj zdg (za 23) (zex (zc (za 15) zd))) zd)))))) zg5))
      zcm)))
      (zb3 14 (zh (zcp (i := 16) zai.nd rfl (Or.inr rfl) (zar (zc7 (own := [("case", 23)]) rfl zai.nd (zy (za 14)) (blkOk_by (N := zll) (sc := defScope zfk) (by decide +kernel)) (fun _ _ _ _ _ => (zi (i := 23) zai.nd rfl (Or.inl rfl))) (fun _ _ _ _ _ => za4) (fun _ _ _ _ _ => (zp zao (hr.mono (by decide)) T.zjk T.zh8.kp T.zhk (zc (za 23) zd))))))
      (zh (zg4 (i := 17) (own := [("blob", 19)]) rfl zai.nd rfl rfl (sw_true rfl rfl rfl (by decide +kernel)) (zy (zhr (ixd hr.units) (za 16) zk)) (blkOk_by (N := zll) (sc := defScope zfk) (by decide +kernel)) (fun _ _ _ _ _ => (zi (i := 19) zai.nd rfl (Or.inr rfl))) (fun _ _ _ _ _ => (zcf (zpw (zl (zvz rfl) T.zyb zwh (zc (zar (zc7 (own := [("case", 23)]) rfl zai.nd (zy (za 16)) (blkOk_by (by kernel_rfl)) (fun _ _ _ _ _ => (zi (i := 23) zai.nd rfl (Or.inl rfl))) (fun _ _ _ _ _ => za4) (fun _ _ _ _ _ => (zjo (znm (have h := DL.Room.u65 hr; h)) (za 19) (za 23) (by with_unfolding_all rfl))))) zd))))) (fun _ _ _ _ _ => (za 19)))
      (zb3 17 (zh (zev (z6 (zjv hr.units) (zp zae (hr.mono (by decide)) T.zg1 T.zfn.kp T.zgh (zc (za 6) (zc (za 4) (zc (za 5) zd)))) (za 17) (nomark _))
      (zm (zbf zfe))
      zcm)
      (zh (zcp (i := 18) zai.nd rfl (Or.inl rfl) (zd4 zd))
      (zh (ze8 PassesOwn.never rfl (zy (za 17)) (zi (i := 19) zai.nd rfl (Or.inl rfl))
      (zm (zd1 (zob PySem.F.plainAttrs_list PySem.F.slot_list_append PySem.F.type_list_append zgc (za 18) (zc (zaj zdg (zp zeh (hr.mono (by decide)) T.zrn T.znz.kp T.zpe (zc (za 19) zd)) (zck (zc (zp zdj (hr.mono (by decide)) T.zpo T.zlj.kp T.zmo (zc (zl zfr T.zie zfy (zc (za 19) zd)) (zc (zck (zc zk (zc zk zd))) zd))) zd))) zd)))))
      (zb3 18 (zh (zev (z6 (zjv hr.units) (zp zd6 (hr.mono (by decide)) T.zn3 T.ziz.kp T.zl7 (zc (za 6) (zc (za 4) (zc (za 5) (zc (zck (zc zk (zc zk zd))) zd))))) (zb8 zj5 T.zog zkd (zc (zar (zl (zcx hr.units) T.zdn zcy (zc (za 18) zd))) zd)) (nomark _))
      (zm (zbf zfe))
      zcm)
      (zh (zev (z6 (zjv hr.units) (zar (zl (zcx hr.units) T.zdn zcy (zc (zaj zdg (za 17) (zp z7 (hr.mono (by decide)) T.zer T.zdp.kp T.zed (zc (za 6) (zc (za 4) (zc (za 5) zd))))) zd))) (zp zao (hr.mono (by decide)) T.zjk T.zh8.kp T.zhk (zc (za 13) zd)) (nomark _))
      (zm (zbf zfe))
      zcm)
      (zh (zev (z6 (zjv hr.units) (zlo zds (hr.mono (by decide)) T.zjs T.zhc.kp T.ziu zra (zc (za 6) (zc (za 4) (zc (za 5) (zc zk zd))))) (zaj zpv (zl (zjj rfl) T.zo5 zjq (zc (zar (zc7 (own := [("case", 23)]) rfl zai.nd (zy (za 16)) (blkOk_by (N := zll) (sc := defScope zfk) (by decide +kernel)) (fun _ _ _ _ _ => (zi (i := 23) zai.nd rfl (Or.inl rfl))) (fun _ _ _ _ _ => za4) (fun _ _ _ _ _ => (zl zfr T.zie zfy (zc (za 23) zd))))) zd)) (zl zfr T.zie zfy (zc (za 17) zd))) (nomark _))
      (zm (zbf zfe))
      zcm)
      (zh (zcp (i := 20) zai.nd rfl (Or.inl rfl) (zl (zjj rfl) T.zo5 zjq (zc (zaj zdg (zex (zc zk zd)) (zar (zc7 (own := [("blob", 19)]) rfl zai.nd (zy (zp z7 (hr.mono (by decide)) T.zer T.zdp.kp T.zed (zc (za 6) (zc (za 4) (zc (za 5) zd))))) (blkOk_by (N := zll) (sc := defScope zfk) (by decide +kernel)) (fun _ _ _ _ _ => (zi (i := 19) zai.nd rfl (Or.inl rfl))) (fun _ _ _ _ _ => za4) (fun _ _ _ _ _ => (zl zfr T.zie zfy (zc (zar (zc7 (own := [("cell", 15)]) rfl zai.nd (zy (za 19)) (blkOk_by (by kernel_rfl)) (fun _ _ _ _ _ => (zi (i := 15) zai.nd rfl (Or.inl rfl))) (fun _ _ _ _ _ => (zcf (z6 (zhg (have h := DL.Room.u65 hr; h)) (za 15) (za 12) (by with_unfolding_all rfl)))) (fun _ _ _ _ _ => (za 15)))) zd)))))) zd)))
      (zh (ze8 PassesOwn.never rfl (zy (zck (zc zk (zc (za 20) (zc (zaj zdg (za 20) zk) zd))))) (zi (i := 21) zai.nd rfl (Or.inl rfl))
      (zm (zvf (C := CA.TooMany) (oth := []) (i := 22) rfl rfl zai.nd rfl rfl T.zi3 T.zse (fun _ hC => nomatch hC) zra (fun U1 pn1 xe1 tk1 po1 => (zh (zd1 (zlo zds (hr.mono (by decide)) T.zjs T.zhc.kp T.ziu tk1 (zc (za 6) (zc (za 4) (zc (za 5) (zc (za 21) zd))))))
      (zm (zev (z6 (zw8 hr.units) (za 21) (za 20) (nomark _))
      (zm (zbf zfe))
      zcm))))
      (fun a1 oe1 cls1 d1 pn1 x1 hz1 hv1 xr1 hb1 => (zm (zev (zuo (zvv (z6 (zwx hr.units) (za 21) (za 20) (nomark _)) (zti (z6 (zjv hr.units) (zyw T.zrt T.zfc hz1 hv1 xr1 hb1 (za 22)) (za 21) (nomark _)))))
      (zm (zbf zfe))
      zcm))))))
      (zm (zbf zfe)))))))))))))))))))))))))))
theorem zyv (T : Txt P K mg) (zff : FnD P w K mg base 3 T.zdb T.zec ["draw", "items"] zc8) (zbr : FnD P w K mg base 2 T.zcl T.zda ["draw", "many"] zap) (zao : FnD P w K mg base 2 T.zc4 T.zdh ["cells"] za3) (z7 : FnD P w K mg base 4 T.zag T.za5 ["rows", "level", "slack"] z3) (z4 : FnD P w K mg base 2 T.zat T.zbk ["rows", "level", "slack"] z8) (zeh : FnD P w K mg base 1 T.zei T.zfs ["blob"] zdi) (zds : FnX P w K mg base 21 T.zbd T.zdt ["rows", "level", "slack", "most"] zch) (zdj : FnD P w K mg base 1 T.zdl T.zeo ["many", "steps"] zc2) (zae : FnD P w K mg base 3 T.za6 T.zbv ["rows", "level", "slack"] zal) (zaf : FnD P w K mg base 2 T.zbe T.zbz ["rows", "level", "slack"] zan) (zd6 : FnD P w K mg base 4 T.zcg T.zdd ["rows", "level", "slack", "steps"] zcj) : FnD P w K mg base 22 T.zr1 T.zve ["script"] sp_law :=
  fn_d T.zzb zai zxs (zyz T zff zbr zao z7 z4 zeh zds zdj zae zaf zd6) zxf
end
section
variable {P : Program} {w : World} {K : PySem.W.Frag} {mg : Str → Option Value} {base : Heap}
theorem zy6 (T : Txt P K mg) : FnD P w K mg base 22 T.zr1 T.zve ["script"] sp_law := by
  have zu : FnD P w K mg base 1 T.zbo T.zb5 ["cell"] zac := zqg T
  have zao : FnD P w K mg base 2 T.zc4 T.zdh ["cells"] za3 := zva T zu
  have za0 : FnD P w K mg base 1 T.za1 T.zbw ["rows", "level"] zas := zk1 T
  have zaf : FnD P w K mg base 2 T.zbe T.zbz ["rows", "level", "slack"] zan := zm3 T za0
  have z4 : FnD P w K mg base 2 T.zat T.zbk ["rows", "level", "slack"] z8 := zmb T za0
  have zae : FnD P w K mg base 3 T.za6 T.zbv ["rows", "level", "slack"] zal := zok T zao z4 zaf
  have zdj : FnD P w K mg base 1 T.zdl T.zeo ["many", "steps"] zc2 := zr7 T
  have zeh : FnD P w K mg base 1 T.zei T.zfs ["blob"] zdi := ztt T
  have zd6 : FnD P w K mg base 4 T.zcg T.zdd ["rows", "level", "slack", "steps"] zcj := zlr T zeh zdj zae
  have zel : FnX P w K mg base 1 T.za7 T.zdu ["most"] zcu := zn4 T
  have zca : FnD P w K mg base 1 T.zc1 T.zdr ["cells"] zcw := zp2 T
  have zdo : FnD P w K mg base 20 T.zbc T.zb6 ["cells"] (zbi 8) := zjp T zao zca zu 8
  have zad : FnD P w K mg base 19 T.zbx T.zct ["cells"] (zak 8) := zgs T zao zca zu 8
  have zen : FnX P w K mg base 20 T.zba T.zdx ["blob", "sure", "most"] zcv := zoa T zao zad zu
  have z7 : FnD P w K mg base 4 T.zag T.za5 ["rows", "level", "slack"] z3 := zjh T zao z4 zae
  have zds : FnX P w K mg base 21 T.zbd T.zdt ["rows", "level", "slack", "most"] zch := zm6 T zel z7 zen zaf
  have zd0 : FnD P w K mg base 1 T.zce T.zde ["script", "index"] zci := zlq T
  have zbr : FnD P w K mg base 2 T.zcl T.zda ["draw", "many"] zap := zo6 T zd0
  have zff : FnD P w K mg base 3 T.zdb T.zec ["draw", "items"] zc8 := zow T zbr
  exact zyv T zff zbr zao z7 z4 zeh zds zdj zae zaf zd6
end
omit [CA] in
theorem zyk {l : PySem.W.OpenLaw} {w : World} {K : PySem.W.Frag} {h : Heap} {mg : Str → Option Value} {fa f0 f1 f2 f3 f4 f5 f6 f7 f8 f9 f10 f11 f12 f13 f14 f15 f16 f17 f18 f19 c_TooMany : Addr} (X : K.In h) (G : h.Ns mainGlobals mg) (hfa : mg "law" = some (.ref fa))
    {fx_TooMany cda_TooMany cc_TooMany : Addr} {ox_TooMany kx_TooMany dx_TooMany px_TooMany ctx_TooMany ccl_TooMany cl_TooMany : Value} {odx_TooMany anx_TooMany cdd_TooMany cld_TooMany : Option Addr} {slx_TooMany ccs_TooMany csl_TooMany : Array (Option Value)} {vs_TooMany : Array Value} {file_TooMany : Str} {tf_TooMany : Tok}
    {od0 od1 od2 od3 od4 od5 od6 od7 od8 od9 od10 od11 od12 od13 od14 od15 od16 od17 od18 od19 an0 an1 an2 an3 an4 an5 an6 an7 an8 an9 an10 an11 an12 an13 an14 an15 an16 an17 an18 an19 : Option Addr} {sl0 sl1 sl2 sl3 sl4 sl5 sl6 sl7 sl8 sl9 sl10 sl11 sl12 sl13 sl14 sl15 sl16 sl17 sl18 sl19 : Array (Option Value)} {oc0 oc1 oc2 oc3 oc4 oc5 oc6 oc7 oc8 oc9 oc10 oc11 oc12 oc13 oc14 oc15 oc16 oc17 oc18 oc19 kV0 kV1 kV2 kV3 kV4 kV5 kV6 kV7 kV8 kV9 kV10 kV11 kV12 kV13 kV14 kV15 kV16 kV17 kV18 kV19 dc0 dc1 dc2 dc3 dc4 dc5 dc6 dc7 dc8 dc9 dc10 dc11 dc12 dc13 dc14 dc15 dc16 dc17 dc18 dc19 pm0 pm1 pm2 pm3 pm4 pm5 pm6 pm7 pm8 pm9 pm10 pm11 pm12 pm13 pm14 pm15 pm16 pm17 pm18 pm19 cd0 cd1 cd2 cd3 cd4 cd5 cd6 cd7 cd8 cd9 cd10 cd11 cd12 cd13 cd14 cd15 cd16 cd17 cd18 cd19 ct0 ct1 ct2 ct3 ct4 ct5 ct6 ct7 ct8 ct9 ct10 ct11 ct12 ct13 ct14 ct15 ct16 ct17 ct18 ct19 : Value}
    (e_TooMany : PySem.W.nsIn K mainGlobals "TooMany" = some (some (.ref c_TooMany)))
    (a0 : PySem.W.nsIn K mainGlobals "nexts_to" = some (some (.ref f0)))
    (l0 : K.lookup f0 = some ⟨oc0, od0, .func (PySem.W.fnOf "nexts_to" "nexts_to" (defArgs zb0) (defBody zb0) (defScope zb0) .none kV0 dc0 pm0 an0 cd0 ct0), sl0⟩)
    (c0 : PySem.W.codeIn K cd0 "nexts_to" = true)
    (k0 : PySem.W.keepIn K (.ref f0) = true)
    (a1 : PySem.W.nsIn K mainGlobals "blobs" = some (some (.ref f1)))
    (l1 : K.lookup f1 = some ⟨oc1, od1, .func (PySem.W.fnOf "blobs" "blobs" (defArgs zef) (defBody zef) (defScope zef) .none kV1 dc1 pm1 an1 cd1 ct1), sl1⟩)
    (c1 : PySem.W.codeIn K cd1 "blobs" = true)
    (k1 : PySem.W.keepIn K (.ref f1) = true)
    (a2 : PySem.W.nsIn K mainGlobals "bright_cells" = some (some (.ref f2)))
    (l2 : K.lookup f2 = some ⟨oc2, od2, .func (PySem.W.fnOf "bright_cells" "bright_cells" (defArgs z9) (defBody z9) (defScope z9) .none kV2 dc2 pm2 an2 cd2 ct2), sl2⟩)
    (c2 : PySem.W.codeIn K cd2 "bright_cells" = true)
    (k2 : PySem.W.keepIn K (.ref f2) = true)
    (a3 : PySem.W.nsIn K mainGlobals "sure_cells" = some (some (.ref f3)))
    (l3 : K.lookup f3 = some ⟨oc3, od3, .func (PySem.W.fnOf "sure_cells" "sure_cells" (defArgs za9) (defBody za9) (defScope za9) .none kV3 dc3 pm3 an3 cd3 ct3), sl3⟩)
    (c3 : PySem.W.codeIn K cd3 "sure_cells" = true)
    (k3 : PySem.W.keepIn K (.ref f3) = true)
    (a4 : PySem.W.nsIn K mainGlobals "maybe_cells" = some (some (.ref f4)))
    (l4 : K.lookup f4 = some ⟨oc4, od4, .func (PySem.W.fnOf "maybe_cells" "maybe_cells" (defArgs zau) (defBody zau) (defScope zau) .none kV4 dc4 pm4 an4 cd4 ct4), sl4⟩)
    (c4 : PySem.W.codeIn K cd4 "maybe_cells" = true)
    (k4 : PySem.W.keepIn K (.ref f4) = true)
    (a5 : PySem.W.nsIn K mainGlobals "sure_blobs" = some (some (.ref f5)))
    (l5 : K.lookup f5 = some ⟨oc5, od5, .func (PySem.W.fnOf "sure_blobs" "sure_blobs" (defArgs zaq) (defBody zaq) (defScope zaq) .none kV5 dc5 pm5 an5 cd5 ct5), sl5⟩)
    (c5 : PySem.W.codeIn K cd5 "sure_blobs" = true)
    (k5 : PySem.W.keepIn K (.ref f5) = true)
    (a6 : PySem.W.nsIn K mainGlobals "size_by" = some (some (.ref f6)))
    (l6 : K.lookup f6 = some ⟨oc6, od6, .func (PySem.W.fnOf "size_by" "size_by" (defArgs zcq) (defBody zcq) (defScope zcq) .none kV6 dc6 pm6 an6 cd6 ct6), sl6⟩)
    (c6 : PySem.W.codeIn K cd6 "size_by" = true)
    (k6 : PySem.W.keepIn K (.ref f6) = true)
    (a7 : PySem.W.nsIn K mainGlobals "middle" = some (some (.ref f7)))
    (l7 : K.lookup f7 = some ⟨oc7, od7, .func (PySem.W.fnOf "middle" "middle" (defArgs zc5) (defBody zc5) (defScope zc5) .none kV7 dc7 pm7 an7 cd7 ct7), sl7⟩)
    (c7 : PySem.W.codeIn K cd7 "middle" = true)
    (k7 : PySem.W.keepIn K (.ref f7) = true)
    (a8 : PySem.W.nsIn K mainGlobals "sure_points" = some (some (.ref f8)))
    (l8 : K.lookup f8 = some ⟨oc8, od8, .func (PySem.W.fnOf "sure_points" "sure_points" (defArgs zam) (defBody zam) (defScope zam) .none kV8 dc8 pm8 an8 cd8 ct8), sl8⟩)
    (c8 : PySem.W.codeIn K cd8 "sure_points" = true)
    (k8 : PySem.W.keepIn K (.ref f8) = true)
    (a9 : PySem.W.nsIn K mainGlobals "check_most" = some (some (.ref f9)))
    (l9 : K.lookup f9 = some ⟨oc9, od9, .func (PySem.W.fnOf "check_most" "check_most" (defArgs zaa) (defBody zaa) (defScope zaa) .none kV9 dc9 pm9 an9 cd9 ct9), sl9⟩)
    (c9 : PySem.W.codeIn K cd9 "check_most" = true)
    (k9 : PySem.W.keepIn K (.ref f9) = true)
    (a10 : PySem.W.nsIn K mainGlobals "do_touch" = some (some (.ref f10)))
    (l10 : K.lookup f10 = some ⟨oc10, od10, .func (PySem.W.fnOf "do_touch" "do_touch" (defArgs zbn) (defBody zbn) (defScope zbn) .none kV10 dc10 pm10 an10 cd10 ct10), sl10⟩)
    (c10 : PySem.W.codeIn K cd10 "do_touch" = true)
    (k10 : PySem.W.keepIn K (.ref f10) = true)
    (a11 : PySem.W.nsIn K mainGlobals "most_by_trying" = some (some (.ref f11)))
    (l11 : K.lookup f11 = some ⟨oc11, od11, .func (PySem.W.fnOf "most_by_trying" "most_by_trying" (defArgs zo) (defBody zo) (defScope zo) .none kV11 dc11 pm11 an11 cd11 ct11), sl11⟩)
    (c11 : PySem.W.codeIn K cd11 "most_by_trying" = true)
    (k11 : PySem.W.keepIn K (.ref f11) = true)
    (a12 : PySem.W.nsIn K mainGlobals "most_apart" = some (some (.ref f12)))
    (l12 : K.lookup f12 = some ⟨oc12, od12, .func (PySem.W.fnOf "most_apart" "most_apart" (defArgs zab) (defBody zab) (defScope zab) .none kV12 dc12 pm12 an12 cd12 ct12), sl12⟩)
    (c12 : PySem.W.codeIn K cd12 "most_apart" = true)
    (k12 : PySem.W.keepIn K (.ref f12) = true)
    (a13 : PySem.W.nsIn K mainGlobals "most_parts" = some (some (.ref f13)))
    (l13 : K.lookup f13 = some ⟨oc13, od13, .func (PySem.W.fnOf "most_parts" "most_parts" (defArgs zt) (defBody zt) (defScope zt) .none kV13 dc13 pm13 an13 cd13 ct13), sl13⟩)
    (c13 : PySem.W.codeIn K cd13 "most_parts" = true)
    (k13 : PySem.W.keepIn K (.ref f13) = true)
    (a14 : PySem.W.nsIn K mainGlobals "doubtful_blobs" = some (some (.ref f14)))
    (l14 : K.lookup f14 = some ⟨oc14, od14, .func (PySem.W.fnOf "doubtful_blobs" "doubtful_blobs" (defArgs zq) (defBody zq) (defScope zq) .none kV14 dc14 pm14 an14 cd14 ct14), sl14⟩)
    (c14 : PySem.W.codeIn K cd14 "doubtful_blobs" = true)
    (k14 : PySem.W.keepIn K (.ref f14) = true)
    (a15 : PySem.W.nsIn K mainGlobals "most_spots" = some (some (.ref f15)))
    (l15 : K.lookup f15 = some ⟨oc15, od15, .func (PySem.W.fnOf "most_spots" "most_spots" (defArgs z2) (defBody z2) (defScope z2) .none kV15 dc15 pm15 an15 cd15 ct15), sl15⟩)
    (c15 : PySem.W.codeIn K cd15 "most_spots" = true)
    (k15 : PySem.W.keepIn K (.ref f15) = true)
    (a16 : PySem.W.nsIn K mainGlobals "_law_number" = some (some (.ref f16)))
    (l16 : K.lookup f16 = some ⟨oc16, od16, .func (PySem.W.fnOf "_law_number" "_law_number" (defArgs zav) (defBody zav) (defScope zav) .none kV16 dc16 pm16 an16 cd16 ct16), sl16⟩)
    (c16 : PySem.W.codeIn K cd16 "_law_number" = true)
    (k16 : PySem.W.keepIn K (.ref f16) = true)
    (a17 : PySem.W.nsIn K mainGlobals "_law_take" = some (some (.ref f17)))
    (l17 : K.lookup f17 = some ⟨oc17, od17, .func (PySem.W.fnOf "_law_take" "_law_take" (defArgs zbq) (defBody zbq) (defScope zbq) .none kV17 dc17 pm17 an17 cd17 ct17), sl17⟩)
    (c17 : PySem.W.codeIn K cd17 "_law_take" = true)
    (k17 : PySem.W.keepIn K (.ref f17) = true)
    (a18 : PySem.W.nsIn K mainGlobals "_law_pick" = some (some (.ref f18)))
    (l18 : K.lookup f18 = some ⟨oc18, od18, .func (PySem.W.fnOf "_law_pick" "_law_pick" (defArgs zbs) (defBody zbs) (defScope zbs) .none kV18 dc18 pm18 an18 cd18 ct18), sl18⟩)
    (c18 : PySem.W.codeIn K cd18 "_law_pick" = true)
    (k18 : PySem.W.keepIn K (.ref f18) = true)
    (a19 : PySem.W.nsIn K mainGlobals "law" = some (some (.ref f19)))
    (l19 : K.lookup f19 = some ⟨oc19, od19, .func (PySem.W.fnOf "law" "law" (defArgs zfk) (defBody zfk) (defScope zfk) .none kV19 dc19 pm19 an19 cd19 ct19), sl19⟩)
    (c19 : PySem.W.codeIn K cd19 "law" = true)
    (k19 : PySem.W.keepIn K (.ref f19) = true)
    (xd_TooMany : PySem.W.hasDictIn K c_TooMany = true)
    (xl_TooMany : PySem.W.subIn K (.ref c_TooMany) (.type "BaseException") = some true)
    (xn_TooMany : PySem.W.typeIn K (.ref c_TooMany) = some (.type "type"))
    (yga_TooMany : PySem.W.findIn K (.ref c_TooMany) "__getattribute__" = some (some (.builtin "BaseException.__getattribute__")))
    (ygg_TooMany : PySem.W.findIn K (.ref c_TooMany) "__getattr__" = some none)
    (ys_TooMany : PySem.W.subIn K (.ref c_TooMany) (.ref c_TooMany) = some true)
    (zfc : PySem.W.findIn K (.ref c_TooMany) "most" = some none)
    (xkx_TooMany : PySem.W.excInitIn K c_TooMany PySem.ESX.exTail "Exception.__new__" = true)
    (xkxo_TooMany : PySem.W.excOver K c_TooMany PySem.ESX.exTail = true)
    (xc_TooMany : PySem.W.takerIn K c_TooMany "most" = some none)
    (xe_TooMany : PySem.W.findIn K (.ref c_TooMany) "__setattr__" = some (some (.builtin "object.__setattr__")))
    (xg_TooMany : PySem.W.findIn K (.ref c_TooMany) "__init__" = some (some (.ref fx_TooMany)))
    (xh_TooMany : PySem.W.isFn K (.ref fx_TooMany) = true)
    (xk_TooMany : PySem.W.keepIn K (.ref c_TooMany) = true)
    (xm_TooMany : PySem.W.subIn K (.ref c_TooMany) (.type "Exception") = some true)
    (xo_TooMany : PySem.W.mroIn K c_TooMany (.ref c_TooMany) = some true)
    (xks_TooMany : PySem.W.ks_superIn K c_TooMany c_TooMany "__init__" = some (some (.builtin "Exception.__init__")))
    (xlk_TooMany : K.lookup fx_TooMany = some ⟨ox_TooMany, odx_TooMany, .func (PySem.W.ksFn "__init__" "TooMany.__init__" (defArgs (inClass (top 7) 0)) (defBody (inClass (top 7) 0)) (defScope (inClass (top 7) 0)) .none kx_TooMany dx_TooMany px_TooMany anx_TooMany (.ref cda_TooMany) ctx_TooMany cc_TooMany), slx_TooMany⟩)
    (xcd_TooMany : PySem.W.codeIn K (.ref cda_TooMany) "TooMany.__init__" = true)
    (xcr_TooMany : K.lookup cda_TooMany = some ⟨ccl_TooMany, cdd_TooMany, .fields vs_TooMany, ccs_TooMany⟩)
    (rfl_v_TooMany : vs_TooMany[2]? = some (.str file_TooMany tf_TooMany))
    (dec_f_TooMany : ((l.prog.main.file : Str) == file_TooMany) = true)
    (xcc_TooMany : K.lookup cc_TooMany = some ⟨cl_TooMany, cld_TooMany, .cell (some (.ref c_TooMany)), csl_TooMany⟩)
    (xq_ : PySem.W.nsIn K cStatics "thirdparty.any" = some none)
    (xz_super : PySem.W.nsIn K mainGlobals "super" = some none)
    (dec_top : (l.prog.main.scope.names.lookup ("super" : Str)).isSome = false)
    (z_sorted : PySem.W.nsIn K mainGlobals "sorted" = some none)
    (z_tuple : PySem.W.nsIn K mainGlobals "tuple" = some none)
    (z_enumerate : PySem.W.nsIn K mainGlobals "enumerate" = some none)
    (z_all : PySem.W.nsIn K mainGlobals "all" = some none)
    (z_len : PySem.W.nsIn K mainGlobals "len" = some none)
    (z_min : PySem.W.nsIn K mainGlobals "min" = some none)
    (z_max : PySem.W.nsIn K mainGlobals "max" = some none)
    (z_list : PySem.W.nsIn K mainGlobals "list" = some none)
    (z_sum : PySem.W.nsIn K mainGlobals "sum" = some none)
    (z_int : PySem.W.nsIn K mainGlobals "int" = some none)
    (z_range : PySem.W.nsIn K mainGlobals "range" = some none)
    (q_MOST_SIZE : ∃ t, PySem.W.nsIn K mainGlobals "MOST_SIZE" = some (some (.int 99 t)))
    : ∃ fd : FuncData, (∀ (s : Shared) (v : Value), BindsTo s fd ⟨[v], []⟩ [("script", v)]) ∧ ∀ base : Heap, K.In base → base.Ns mainGlobals mg → FnD l.prog w K mg base 22 fa fd ["script"] DL.ztv := by
  have e := hfa.symm.trans (PySem.W.mg_of X G a19)
  cases e
  letI : CA := ⟨0, 0, 0, 0, 0, 0, 0, 0, 0, c_TooMany, 0, 0, 0, 0, 0, 0, 0, 0, 0, 0, 0, 0, 0, 0, 0, 0, 0, 0⟩
  have F0 := fun_mk (st := zb0) l0 c0 k0
  have F1 := fun_mk (st := zef) l1 c1 k1
  have F2 := fun_mk (st := z9) l2 c2 k2
  have F3 := fun_mk (st := za9) l3 c3 k3
  have F4 := fun_mk (st := zau) l4 c4 k4
  have F5 := fun_mk (st := zaq) l5 c5 k5
  have F6 := fun_mk (st := zcq) l6 c6 k6
  have F7 := fun_mk (st := zc5) l7 c7 k7
  have F8 := fun_mk (st := zam) l8 c8 k8
  have F9 := fun_mk (st := zaa) l9 c9 k9
  have F10 := fun_mk (st := zbn) l10 c10 k10
  have F11 := fun_mk (st := zo) l11 c11 k11
  have F12 := fun_mk (st := zab) l12 c12 k12
  have F13 := fun_mk (st := zt) l13 c13 k13
  have F14 := fun_mk (st := zq) l14 c14 k14
  have F15 := fun_mk (st := z2) l15 c15 k15
  have F16 := fun_mk (st := zav) l16 c16 k16
  have F17 := fun_mk (st := zbq) l17 c17 k17
  have F18 := fun_mk (st := zbs) l18 c18 k18
  have F19 := fun_mk (st := zfk) l19 c19 k19
  have B0 := F0.binds (ps := ["cell"]) fun _ _ _ _ _ _ us hl => match us, hl with | [_], _ => rfl
  have B1 := F1.binds (ps := ["cells"]) fun _ _ _ _ _ _ us hl => match us, hl with | [_], _ => rfl
  have B2 := F2.binds (ps := ["rows", "level"]) fun _ _ _ _ _ _ us hl => match us, hl with | [_, _], _ => rfl
  have B3 := F3.binds (ps := ["rows", "level", "slack"]) fun _ _ _ _ _ _ us hl => match us, hl with | [_, _, _], _ => rfl
  have B4 := F4.binds (ps := ["rows", "level", "slack"]) fun _ _ _ _ _ _ us hl => match us, hl with | [_, _, _], _ => rfl
  have B5 := F5.binds (ps := ["rows", "level", "slack"]) fun _ _ _ _ _ _ us hl => match us, hl with | [_, _, _], _ => rfl
  have B6 := F6.binds (ps := ["many", "steps"]) fun _ _ _ _ _ _ us hl => match us, hl with | [_, _], _ => rfl
  have B7 := F7.binds (ps := ["blob"]) fun _ _ _ _ _ _ us hl => match us, hl with | [_], _ => rfl
  have B8 := F8.binds (ps := ["rows", "level", "slack", "steps"]) fun _ _ _ _ _ _ us hl => match us, hl with | [_, _, _, _], _ => rfl
  have B9 := F9.binds (ps := ["most"]) fun _ _ _ _ _ _ us hl => match us, hl with | [_], _ => rfl
  have B10 := F10.binds (ps := ["cells"]) fun _ _ _ _ _ _ us hl => match us, hl with | [_], _ => rfl
  have B11 := F11.binds (ps := ["cells"]) fun _ _ _ _ _ _ us hl => match us, hl with | [_], _ => rfl
  have B12 := F12.binds (ps := ["cells"]) fun _ _ _ _ _ _ us hl => match us, hl with | [_], _ => rfl
  have B13 := F13.binds (ps := ["blob", "sure", "most"]) fun _ _ _ _ _ _ us hl => match us, hl with | [_, _, _], _ => rfl
  have B14 := F14.binds (ps := ["rows", "level", "slack"]) fun _ _ _ _ _ _ us hl => match us, hl with | [_, _, _], _ => rfl
  have B15 := F15.binds (ps := ["rows", "level", "slack", "most"]) fun _ _ _ _ _ _ us hl => match us, hl with | [_, _, _, _], _ => rfl
  have B16 := F16.binds (ps := ["script", "index"]) fun _ _ _ _ _ _ us hl => match us, hl with | [_, _], _ => rfl
  have B17 := F17.binds (ps := ["draw", "many"]) fun _ _ _ _ _ _ us hl => match us, hl with | [_, _], _ => rfl
  have B18 := F18.binds (ps := ["draw", "items"]) fun _ _ _ _ _ _ us hl => match us, hl with | [_, _], _ => rfl
  have B19 := F19.binds (ps := ["script"]) fun _ _ _ _ _ _ us hl => match us, hl with | [_], _ => rfl
  let T : Txt l.prog K mg := ⟨fx_TooMany,
    _, _, F0, PySem.W.mg_of X G a0, B0,
    _, _, F1, PySem.W.mg_of X G a1, B1,
    _, _, F2, PySem.W.mg_of X G a2, B2,
    _, _, F3, PySem.W.mg_of X G a3, B3,
    _, _, F4, PySem.W.mg_of X G a4, B4,
    _, _, F5, PySem.W.mg_of X G a5, B5,
    _, _, F6, PySem.W.mg_of X G a6, B6,
    _, _, F7, PySem.W.mg_of X G a7, B7,
    _, _, F8, PySem.W.mg_of X G a8, B8,
    _, _, F9, PySem.W.mg_of X G a9, B9,
    _, _, F10, PySem.W.mg_of X G a10, B10,
    _, _, F11, PySem.W.mg_of X G a11, B11,
    _, _, F12, PySem.W.mg_of X G a12, B12,
    _, _, F13, PySem.W.mg_of X G a13, B13,
    _, _, F14, PySem.W.mg_of X G a14, B14,
    _, _, F15, PySem.W.mg_of X G a15, B15,
    _, _, F16, PySem.W.mg_of X G a16, B16,
    _, _, F17, PySem.W.mg_of X G a17, B17,
    _, _, F18, PySem.W.mg_of X G a18, B18,
    _, _, F19, PySem.W.mg_of X G a19, B19,
    PySem.W.mg_none_of X G z_sorted,
    PySem.W.mg_none_of X G z_tuple,
    PySem.W.mg_none_of X G z_enumerate,
    PySem.W.mg_none_of X G z_all,
    PySem.W.mg_none_of X G z_len,
    PySem.W.mg_none_of X G z_min,
    PySem.W.mg_none_of X G z_max,
    PySem.W.mg_none_of X G z_list,
    PySem.W.mg_none_of X G z_sum,
    PySem.W.mg_none_of X G z_int,
    PySem.W.mg_none_of X G z_range,
    (let ⟨t, e⟩ := q_MOST_SIZE; ⟨t, PySem.W.mg_of X G e⟩),
    ⟨xkx_TooMany, xkxo_TooMany, xc_TooMany, xd_TooMany, xe_TooMany, xg_TooMany, xh_TooMany, xk_TooMany, xl_TooMany, xm_TooMany, xn_TooMany, xo_TooMany, xks_TooMany, xq_, PySem.W.mg_none_of X G xz_super, dec_top,
      ⟨_, _, _, _, _, _, _, _, _, _, _, _, _, _, _, _, _, _, _, _, _, _, _, _, _, _, xlk_TooMany, xcd_TooMany, rfl, rfl, rfl, rfl, rfl, rfl, rfl, rfl, by decide +kernel, ⟨_, rfl, rfl⟩, by decide, by decide,
      ⟨_, _, _, _, _, _, xcr_TooMany, rfl_v_TooMany, dec_f_TooMany⟩, ⟨_, _, _, xcc_TooMany⟩, ⟨_, fun _ => rfl⟩, fun _ => ⟨rfl, rfl, rfl, rfl, fun _ _ _ _ _ q => Calls.Constant_str (q _ _ rfl rfl rfl rfl)⟩, fun _ _ _ => .of_eq rfl⟩⟩,
    PySem.W.mg_of X G e_TooMany,
    PySem.W.exm_ref xl_TooMany xd_TooMany xn_TooMany ys_TooMany,
    ⟨yga_TooMany, ygg_TooMany, xl_TooMany, xd_TooMany⟩,
    zfc⟩
  refine ⟨PySem.W.fnOf "law" "law" (defArgs zfk) (defBody zfk) (defScope zfk) .none kV19 dc19 pm19 an19 cd19 ct19, fun s v => .of_eq rfl, fun base _ _ => ?_⟩
  exact zy6 T
omit [CA]
theorem zyd {w : World} {K : PySem.W.Frag} {h : Heap} {mg : Str → Option Value} {fa : Addr} (X : K.In h) (G : h.Ns mainGlobals mg) (hfa : mg "law" = some (.ref fa)) (c : HB.zjy fsB fnB K) :
    ∃ fd : FuncData, (∀ (s : Shared) (v : Value), BindsTo s fd ⟨[v], []⟩ [("script", v)]) ∧ ∀ base : Heap, K.In base → base.Ns mainGlobals mg → FnD PySem.Challenge.rw_moonfall_k61_whole_doubtful.prog w K mg base 22 fa fd ["script"] DL.ztv := by
  obtain ⟨_, _, _, _, _, _, _, _, l0⟩ := c.f dB0 0
  obtain ⟨_, _, _, _, _, _, _, _, l1⟩ := c.f dB1 1
  obtain ⟨_, _, _, _, _, _, _, _, l2⟩ := c.f dB2 2
  obtain ⟨_, _, _, _, _, _, _, _, l3⟩ := c.f dB3 3
  obtain ⟨_, _, _, _, _, _, _, _, l4⟩ := c.f dB4 4
  obtain ⟨_, _, _, _, _, _, _, _, l5⟩ := c.f dB5 5
  obtain ⟨_, _, _, _, _, _, _, _, l6⟩ := c.f dB6 6
  obtain ⟨_, _, _, _, _, _, _, _, l7⟩ := c.f dB7 7
  obtain ⟨_, _, _, _, _, _, _, _, l8⟩ := c.f dB8 8
  obtain ⟨_, _, _, _, _, _, _, _, l9⟩ := c.f dB9 9
  obtain ⟨_, _, _, _, _, _, _, _, l10⟩ := c.f dB10 10
  obtain ⟨_, _, _, _, _, _, _, _, l11⟩ := c.f dB11 11
  obtain ⟨_, _, _, _, _, _, _, _, l12⟩ := c.f dB12 12
  obtain ⟨_, _, _, _, _, _, _, _, l13⟩ := c.f dB13 13
  obtain ⟨_, _, _, _, _, _, _, _, l14⟩ := c.f dB14 14
  obtain ⟨_, _, _, _, _, _, _, _, l15⟩ := c.f dB15 15
  obtain ⟨_, _, _, _, _, _, _, _, l16⟩ := c.f dB16 16
  obtain ⟨_, _, _, _, _, _, _, _, l17⟩ := c.f dB17 17
  obtain ⟨_, _, _, _, _, _, _, _, l18⟩ := c.f dB18 18
  obtain ⟨_, _, _, _, _, _, _, _, l19⟩ := c.f dB19 19
  obtain ⟨_, _, _, _, _, _, _, _, xlk_TooMany⟩ := HB.zyq (d := dB20) rfl (c.fn 20 (by kernel_rfl)) (c.fact 0 (f := fun K => PySem.W.codeIn K (HB.cdV K (He.fAd K ("TooMany", some "__init__"))) "TooMany.__init__") (by kernel_rfl))
  obtain ⟨_, _, _, _, _, _, xcr_TooMany, rv_TooMany, df_TooMany⟩ := HB.zu0 (c.fact 1 (f := fun K => HB.zvj K (HB.cdA K (He.fAd K ("TooMany", some "__init__"))) (PySem.Challenge.rw_moonfall_k61_whole_doubtful.prog.main.file : Str)) (by kernel_rfl))
  obtain ⟨_, _, _, xcc_TooMany⟩ := HB.zvo (c.fact 2 (f := fun K => HB.zur K (HB.clA K (He.fAd K ("TooMany", some "__init__"))) (He.ga K "TooMany")) (by kernel_rfl))
  exact zyk (l := PySem.Challenge.rw_moonfall_k61_whole_doubtful) (f0 := (He.fAd K ("nexts_to", none))) (f1 := (He.fAd K ("blobs", none))) (f2 := (He.fAd K ("bright_cells", none))) (f3 := (He.fAd K ("sure_cells", none))) (f4 := (He.fAd K ("maybe_cells", none))) (f5 := (He.fAd K ("sure_blobs", none))) (f6 := (He.fAd K ("size_by", none))) (f7 := (He.fAd K ("middle", none))) (f8 := (He.fAd K ("sure_points", none))) (f9 := (He.fAd K ("check_most", none))) (f10 := (He.fAd K ("do_touch", none))) (f11 := (He.fAd K ("most_by_trying", none))) (f12 := (He.fAd K ("most_apart", none))) (f13 := (He.fAd K ("most_parts", none))) (f14 := (He.fAd K ("doubtful_blobs", none))) (f15 := (He.fAd K ("most_spots", none))) (f16 := (He.fAd K ("_law_number", none))) (f17 := (He.fAd K ("_law_take", none))) (f18 := (He.fAd K ("_law_pick", none))) (f19 := (He.fAd K ("law", none))) (c_TooMany := (He.ga K "TooMany")) (fx_TooMany := (He.fAd K ("TooMany", some "__init__"))) (cda_TooMany := (HB.cdA K (He.fAd K ("TooMany", some "__init__")))) (cc_TooMany := (HB.clA K (He.fAd K ("TooMany", some "__init__")))) X G hfa (c.d 3)
    (c.d 4)
    l0
    (c.q 5)
    (c.q 6)
    (c.d 7)
    l1
    (c.q 8)
    (c.q 9)
    (c.d 10)
    l2
    (c.q 11)
    (c.q 12)
    (c.d 13)
    l3
    (c.q 14)
    (c.q 15)
    (c.d 16)
    l4
    (c.q 17)
    (c.q 18)
    (c.d 19)
    l5
    (c.q 20)
    (c.q 21)
    (c.d 22)
    l6
    (c.q 23)
    (c.q 24)
    (c.d 25)
    l7
    (c.q 26)
    (c.q 27)
    (c.d 28)
    l8
    (c.q 29)
    (c.q 30)
    (c.d 31)
    l9
    (c.q 32)
    (c.q 33)
    (c.d 34)
    l10
    (c.q 35)
    (c.q 36)
    (c.d 37)
    l11
    (c.q 38)
    (c.q 39)
    (c.d 40)
    l12
    (c.q 41)
    (c.q 42)
    (c.d 43)
    l13
    (c.q 44)
    (c.q 45)
    (c.d 46)
    l14
    (c.q 47)
    (c.q 48)
    (c.d 49)
    l15
    (c.q 50)
    (c.q 51)
    (c.d 52)
    l16
    (c.q 53)
    (c.q 54)
    (c.d 55)
    l17
    (c.q 56)
    (c.q 57)
    (c.d 58)
    l18
    (c.q 59)
    (c.q 60)
    (c.d 61)
    l19
    (c.q 62)
    (c.q 63)
    (c.q 64)
    (c.d 65)
    (c.d 66)
    (c.d 67)
    (c.d 68)
    (c.d 69)
    (c.d 70)
    (c.q 71)
    (c.q 72)
    (c.d 73)
    (c.d 74)
    (c.d 75)
    (c.q 76)
    (c.q 77)
    (c.d 78)
    (c.d 79)
    (c.d 80)
    xlk_TooMany
    (c.q 81)
    xcr_TooMany
    rv_TooMany
    df_TooMany
    xcc_TooMany
    (c.d 82)
    (c.d 83)
    (by decide +kernel)
    (c.d 84)
    (c.d 85)
    (c.d 86)
    (c.d 87)
    (c.d 88)
    (c.d 89)
    (c.d 90)
    (c.d 91)
    (c.d 92)
    (c.d 93)
    (c.d 94)
    (HB.zw2 (c.fact 95 (f := fun K => HB.intB K "MOST_SIZE" 99) (by kernel_rfl)))
end M
open PySem PySem.W PySem.Calls PyProof.Rows in
set_option maxRecDepth 100000 in
set_option maxHeartbeats 0 in
theorem PySem.Challenge.cw_moonfall_k61_whole_doubtful_holds : PySem.Challenge.rw_moonfall_k61_whole_doubtful.Holds := by
  w_on; o_law
  refine HandSHeadRun.head_any (r := OpenLaw.row PySem.Challenge.rw_moonfall_k61_whole_doubtful) (q := view (OpenLaw.row PySem.Challenge.rw_moonfall_k61_whole_doubtful).prog [49]) (H := M.hkB) (ob := M.obB) (M := 20000) (loose := M.zmm) (d := HandSHeadRun.topDef (OpenLaw.row PySem.Challenge.rw_moonfall_k61_whole_doubtful).prog 49) (kwd := []) M.zs3
    (by kernel_rfl) (fun s => by kernel_rfl) M.runB (by kernel_rfl) (by kernel_rfl) (by kernel_rfl) (by rfl) (by first | assumption | decide +kernel) (by decide +kernel) ⟨rfl, rfl, rfl, rfl, rfl, by decide +kernel⟩ ?hw ?hc
  case hw => w_witness2
  case hc =>
    refine HB.zxo (l := PySem.Challenge.rw_moonfall_k61_whole_doubtful) (k := 22) (x := "script") rfl (by kernel_rfl) ⟨rfl, by decide, by decide⟩ ?F
    intro w mg fa h Y G hmg0
    obtain ⟨K, KX, c⟩ := Y
    have hmg : mg ("law" : PySem.Str) = some (.ref fa) := by
      have e : (HandSHeadRun.topDef (OpenLaw.row PySem.Challenge.rw_moonfall_k61_whole_doubtful).prog 49).name = ("law" : PySem.Str) := by kernel_rfl
      rw [← e]
      exact hmg0
    obtain ⟨fd, hb, hF⟩ := M.zyd (w := w) KX G hmg c
    exact ⟨K, fd, KX, hb, hF⟩
