import PyProof.Rows.All
import Wide.All
import OpenK.AllK
import Wide.FinOn
import HandS.ForMost
import KE.KStateDown
import KE.KSuper
import HandS.Head0
import HandS.Head1
import HandS.Head2
import HandS.HeadEnd
import HandS.HeadHook1
import HandS.HeadHook2
import HandS.Words
import HandS.ExcSuper
import KE.KExcLine
import KE.RegKSuper
import PySem.Challenge.RW_moonfall_k19_whole_drawings
import KE.KDictKeyed
import HandS.TupAny
import HandS.Style
import KE.SortData
import KE.DataCmp
import KE.DatumOrd
import PyProof.P3In
import HandS.TupLen
import HandS.Iter
import KE.KDictWalk
import HandS.DictComp
import KE.KDictPairs
import HandS.More
import KE.KDictCopyH
import KE.KDictSum
import HandS.Zip
import HandS.IsInst
import KE.GoesMore
import HandS.DictTup
import HandS.Star
import KE.KDictItemsList
import PyProof.Transfer
import HandS.Dict
import PyProof.MaxThree
import PyProof.EqAt
import PyProof.EqKinds
import HandS.Remove
import KE.KDictList
import KE.KDictDisplayH
import PyProof.TupleOfSeq
import HandS.Conv
import HandS.OwnEq
import HandS.TupSets
import HandS.Comp
import HandS.SetFor
import HandS.Strs
import KE.KSortAsk
import KE.SortCalls
import KE.LtData
import KE.KSortTup
import KE.DataMinMax
import PyProof.ZipIter
import HandS.Zip0
import HandS.Text
import HandS.MapJoin
import HandS.Codes
import PyProof.Draws
import PyProof.EnumMake
import PyProof.StrBlock2
import HandS.ForExc
import HandS.ExcField
import KE.KExcInit
import KE.KExcSuper
import HandS.ExcIs
set_option Elab.async false
set_option linter.all false
set_option maxRecDepth 100000
set_option maxHeartbeats 4000000
namespace HB
open PySem PySem.Spec PyProof.Rows L2
/-- a list of addresses worked out ahead -/
def frA {α : Type} : List Addr → (List Addr → α) → α
  | [], k => k []
  | a :: r, k => HandSHeadRun.frNat a fun a => frA r fun r => k (a :: r)
def nx1 (o : Obj) : List Addr := match o.data with
  | .cls cd => [cd.ns]
  | .dict es _ => es.toList.flatMap fun e => He.refV e.val
  | .func fd => He.refV fd.code ++ fd.closure.map (·.2)
  | _ => []
def lv (g : Addr → Option Obj) (as : List Addr) : List Addr := as.flatMap fun a => match g a with
  | some o => nx1 o
  | none => []
def isCl (g : Addr → Option Obj) (a : Addr) : Bool := match g a with
  | some ⟨_, _, .cls _, _⟩ => true
  | _ => false
/-- the classes and what they hold stand first: most looks go there -/
def asB (g : Addr → Option Obj) : List Addr :=
  frA (lv g [mainGlobals]) fun l1 => frA (l1.filter (isCl g)) fun c1 => frA (lv g c1) fun n1 => frA (lv g n1) fun m1 => frA (l1.filter fun a => !isCl g a) fun r1 =>
    [mainGlobals, cStatics] ++ (c1 ++ (n1 ++ (m1 ++ (r1 ++ (lv g m1 ++ lv g r1)))))
def frO {α : Type} (o : Obj) (k : Obj → α) : α := match o with
  | ⟨c, d, dt, sl⟩ => k ⟨c, d, dt, sl⟩
theorem z9h {α : Type} (o : Obj) (k : Obj → α) : frO o k = k o := by cases o; rfl
def frL {α : Type} : PySem.W.Frag → (PySem.W.Frag → α) → α
  | [], k => k []
  | (a, o) :: r, k => HandSHeadRun.frNat a fun a => frO o fun o => frL r fun r => k ((a, o) :: r)
theorem zxt {α : Type} : ∀ (K : PySem.W.Frag) (k : PySem.W.Frag → α), frL K k = k K
  | [], _ => rfl
  | (a, o) :: r, k => by
    show HandSHeadRun.frNat a (fun a => frO o fun o => frL r fun r => k ((a, o) :: r)) = _
    rw [HandSHeadRun.frNat_eq, z9h, zxt r]
structure DefB where
  at_ : Str × Option Str
  name : Str
  qual : Str
  params : Arguments
  body : List Stmt
  scope : Scope
  clo : List Str := []
abbrev FnV : Type := Option (Str × Str × Arguments × FuncBody × Scope × Addr × List Str × Value × Addr)
def fnO (K : PySem.W.Frag) (p : Str × Option Str) : FnV := match K.lookup (He.fAd K p) with
  | some ⟨_, _, .func fd, _⟩ => some (fd.name, fd.qualname, fd.params, fd.body, fd.scope, fd.globals, fd.closure.map (·.1), fd.defaults, fd.builtins)
  | _ => none
def DefB.val (d : DefB) : FnV := some (d.name, d.qual, d.params, .stmts d.body, d.scope, mainGlobals, d.clo, .none, builtinsNs)
/-- the code of a function -/
def cdV (K : PySem.W.Frag) (f : Addr) : Value := match K.lookup f with
  | some ⟨_, _, .func fd, _⟩ => fd.code
  | _ => .none
def cdA (K : PySem.W.Frag) (f : Addr) : Addr := match cdV K f with
  | .ref c => c
  | _ => 0
/-- the first cell of a function -/
def clA (K : PySem.W.Frag) (f : Addr) : Addr := match K.lookup f with
  | some ⟨_, _, .func fd, _⟩ => (match fd.closure with
    | (_, c) :: _ => c
    | _ => 0)
  | _ => 0
theorem zaa3 {K : PySem.W.Frag} {d : DefB} (hc : d.clo = []) (e : fnO K d.at_ = d.val) :
    ∃ oc od osl kV doc pm an ct, K.lookup (He.fAd K d.at_) = some ⟨oc, od, .func (PySem.W.fnOf d.name d.qual d.params d.body d.scope .none kV doc pm an (cdV K (He.fAd K d.at_)) ct), osl⟩ := by
  unfold fnO at e
  unfold cdV
  cases q : K.lookup (He.fAd K d.at_) with
  | none => rw [q] at e; cases e
  | some o =>
    obtain ⟨oc, od, dt, osl⟩ := o
    rw [q] at e
    cases dt with
    | func fd =>
      obtain ⟨n1, n2, n3, n4, n5, n6, n7, n8, n9, n10, n11, n12, n13, n14, n15⟩ := fd
      have e2 : (some (n1, n2, n3, n4, n5, n6, n7.map (·.1), n8, n15) : FnV) = some (d.name, d.qual, d.params, .stmts d.body, d.scope, mainGlobals, d.clo, .none, builtinsNs) := e
      simp only [Option.some.injEq, Prod.mk.injEq] at e2
      obtain ⟨h1, h2, h3, h4, h5, h6, h7, h8, h9⟩ := e2
      rw [hc] at h7
      have h7' : n7 = [] := by cases n7 with
        | nil => rfl
        | cons a b => cases h7
      subst h1 h2 h3 h4 h5 h6 h7' h8 h9
      exact ⟨oc, od, osl, n9, n10, n11, n12, n14, rfl⟩
    | _ => cases e
theorem z9a {K : PySem.W.Frag} {d : DefB} (hc : d.clo = ([("__class__" : Str)] : List Str)) (e : fnO K d.at_ = d.val) (hr : PySem.W.codeIn K (cdV K (He.fAd K d.at_)) d.qual = true) :
    ∃ oc od osl kV doc pm an ct, K.lookup (He.fAd K d.at_) = some ⟨oc, od, .func (PySem.W.ksFn d.name d.qual d.params d.body d.scope .none kV doc pm an (.ref (cdA K (He.fAd K d.at_))) ct (clA K (He.fAd K d.at_))), osl⟩ := by
  have hr' : cdV K (He.fAd K d.at_) = .ref (cdA K (He.fAd K d.at_)) := by
    unfold cdA
    cases q : cdV K (He.fAd K d.at_) with
    | ref c => rfl
    | _ => rw [q] at hr; cases hr
  rw [← hr']
  unfold fnO at e
  unfold cdV clA
  cases q : K.lookup (He.fAd K d.at_) with
  | none => rw [q] at e; cases e
  | some o =>
    obtain ⟨oc, od, dt, osl⟩ := o
    rw [q] at e
    cases dt with
    | func fd =>
      obtain ⟨n1, n2, n3, n4, n5, n6, n7, n8, n9, n10, n11, n12, n13, n14, n15⟩ := fd
      have e2 : (some (n1, n2, n3, n4, n5, n6, n7.map (·.1), n8, n15) : FnV) = some (d.name, d.qual, d.params, .stmts d.body, d.scope, mainGlobals, d.clo, .none, builtinsNs) := e
      simp only [Option.some.injEq, Prod.mk.injEq] at e2
      obtain ⟨h1, h2, h3, h4, h5, h6, h7, h8, h9⟩ := e2
      rw [hc] at h7
      match n7, h7 with
      | [(x, c)], h7 =>
        have hx : x = "__class__" := by simpa using h7
        subst h1 h2 h3 h4 h5 h6 hx h8 h9
        exact ⟨oc, od, osl, n9, n10, n11, n12, n14, rfl⟩
    | _ => cases e
def decB {α : Type} [DecidableEq α] (a b : α) : Bool := decide (a = b)
theorem z2y {α : Type} [DecidableEq α] {a b : α} (h : decB a b = true) : a = b := of_decide_eq_true h
/-- the code record at a: fields, the third is the file -/
def z51 (K : PySem.W.Frag) (a : Addr) (file : Str) : Bool := match K.lookup a with
  | some ⟨_, _, .fields vs, _⟩ => (match (vs[2]? : Option Value) with
    | some (.str f _) => file == f
    | _ => false)
  | _ => false
theorem z57 {K : PySem.W.Frag} {a : Addr} {file : Str} (h : z51 K a file = true) :
    ∃ (ccl : Value) (cdd : Option Addr) (vs : Array Value) (ccs : Array (Option Value)) (f : Str) (tf : Tok), K.lookup a = some ⟨ccl, cdd, .fields vs, ccs⟩ ∧ vs[2]? = some (.str f tf) ∧ (file == f) = true := by
  unfold z51 at h
  cases q : K.lookup a with
  | none => rw [q] at h; cases h
  | some o =>
    obtain ⟨oc, od, dt, osl⟩ := o
    rw [q] at h
    cases dt with
    | fields vs =>
      have h1 : (match (vs[2]? : Option Value) with
        | some (.str f _) => file == f
        | _ => false) = true := h
      cases e : vs[2]? with
      | none => rw [e] at h1; cases h1
      | some v =>
        rw [e] at h1
        cases v with
        | str f t => exact ⟨oc, od, vs, osl, f, t, rfl, e, h1⟩
        | _ => cases h1
    | _ => cases h
def zd6 (K : PySem.W.Frag) (a c : Addr) : Bool := match K.lookup a with
  | some ⟨_, _, .cell (some (.ref b)), _⟩ => Nat.beq b c
  | _ => false
theorem z5o {K : PySem.W.Frag} {a c : Addr} (h : zd6 K a c = true) : ∃ (cl : Value) (cld : Option Addr) (csl : Array (Option Value)), K.lookup a = some ⟨cl, cld, .cell (some (.ref c)), csl⟩ := by
  unfold zd6 at h
  cases q : K.lookup a with
  | none => rw [q] at h; cases h
  | some o =>
    obtain ⟨oc, od, dt, osl⟩ := o
    rw [q] at h
    cases dt with
    | cell v =>
      cases v with
      | none => cases h
      | some v =>
        cases v with
        | ref b =>
          have e : b = c := Nat.eq_of_beq_eq_true h
          subst e
          exact ⟨oc, od, osl, rfl⟩
        | _ => cases h
    | _ => cases h
def intB (K : PySem.W.Frag) (x : Str) (i : Int) : Bool := match PySem.W.nsIn K mainGlobals x with
  | some (some (.int j _)) => decide (j = i)
  | _ => false
theorem zms {K : PySem.W.Frag} {x : Str} {i : Int} (h : intB K x i = true) : ∃ t, PySem.W.nsIn K mainGlobals x = some (some (.int i t)) := by
  unfold intB at h
  split at h
  · rename_i j t e
    have := of_decide_eq_true h
    subst this
    exact ⟨t, e⟩
  · cases h
def strB (K : PySem.W.Frag) (x : Str) (z : Str) : Bool := match PySem.W.nsIn K mainGlobals x with
  | some (some (.str j _)) => decide (j = z)
  | _ => false
theorem z7l {K : PySem.W.Frag} {x : Str} {z : Str} (h : strB K x z = true) : ∃ t, PySem.W.nsIn K mainGlobals x = some (some (.str z t)) := by
  unfold strB at h
  split at h
  · rename_i j t e
    have := of_decide_eq_true h
    subst this
    exact ⟨t, e⟩
  · cases h
/-- a module's tuple -/
def seqB (K : PySem.W.Frag) (x : Str) (ok : List Value → Bool) : Bool := match K.lookup (He.ga K x) with
  | some ⟨.type c, _, .seq its _, _⟩ => decide (c = "tuple") && (ok its.toList && decide (its.size ≤ sizeLine))
  | _ => false
theorem z71 {K : PySem.W.Frag} {x : Str} {ok : List Value → Bool} (h : seqB K x ok = true) :
    ∃ (od : Option Addr) (its : Array Value) (n : Nat) (sl : Array (Option Value)), K.lookup (He.ga K x) = some ⟨.type "tuple", od, .seq its n, sl⟩ ∧ ok its.toList = true ∧ its.size ≤ sizeLine := by
  unfold seqB at h
  split at h
  · rename_i c od its n sl e
    obtain ⟨h1, h2⟩ := He.ba h
    obtain ⟨h2, h3⟩ := He.ba h2
    have := of_decide_eq_true h1
    subst this
    exact ⟨od, its, n, sl, e, h2, of_decide_eq_true h3⟩
  · cases h
abbrev Fs : Type := List (PySem.W.Frag → Bool)
abbrev Al : Type := Bool × List FnV
def obsB (fs : Fs) (fn : List DefB) (K : PySem.W.Frag) : Al := (fs.all fun f => f K, fn.map fun d => fnO K d.at_)
def valB (fn : List DefB) : Al := (true, fn.map DefB.val)
def z7g (fs : Fs) (fn : List DefB) (g : Addr → Option Obj) : Al := frL (He.frG g (asB g)) (obsB fs fn)
def zrc (fs : Fs) (fn : List DefB) (K : PySem.W.Frag) : Prop := obsB fs fn K = valB fn
def zt1 (fs : Fs) (fn : List DefB) : PySem.W.Hook where
  α := Al
  obs := fun s => z7g fs fn s.heap.get?
  val := fun _ => valB fn
  says := fun _ h => ∃ K : PySem.W.Frag, K.In h ∧ zrc fs fn K
  of := fun _ _ e => ⟨_, He.frG_in, (zxt _ _).symm.trans e⟩
  keeps := fun _ _ _ ⟨K, hK, c⟩ k => ⟨K, PySem.W.Frag.In.keeps hK k, c⟩
theorem z5c {fs : Fs} {fn : List DefB} {g : Addr → Option Obj} {s : Shared} (h : ∀ a, g a = s.heap.get? a) : z7g fs fn g = (zt1 fs fn).obs s := by
  have e : g = s.heap.get? := funext h
  rw [e] <;> rfl
theorem zrc.fact {fs : Fs} {fn : List DefB} {K : PySem.W.Frag} (c : zrc fs fn K) (i : Nat) {f : PySem.W.Frag → Bool} (h : fs[i]? = some f) : f K = true :=
  List.all_eq_true.mp (show (fs.all fun f => f K) = true from congrArg (fun z : Al => z.1) c) f (List.mem_of_getElem? h)
theorem zrc.fn {fs : Fs} {fn : List DefB} {K : PySem.W.Frag} (c : zrc fs fn K) (i : Nat) {d : DefB} (h : fn[i]? = some d) : fnO K d.at_ = d.val := by
  have e : fn.map (fun d => fnO K d.at_) = fn.map DefB.val := congrArg (fun z : Al => z.2) c
  have e2 : (fn.map fun d => fnO K d.at_)[i]? = (fn.map DefB.val)[i]? := by rw [e]
  rw [List.getElem?_map, List.getElem?_map, h] at e2
  exact Option.some.inj e2
theorem zrc.q {fs : Fs} {fn : List DefB} {K : PySem.W.Frag} {b : Bool} (c : zrc fs fn K) (i : Nat) (h : (fs[i]?.map fun f => f K) = some b := by kernel_rfl) : b = true := by
  cases e : fs[i]? with
  | none => rw [e] at h; cases h
  | some f =>
    rw [e] at h
    rw [← Option.some.inj h]
    exact c.fact i e
theorem zrc.d {α : Type} [DecidableEq α] {fs : Fs} {fn : List DefB} {K : PySem.W.Frag} {x y : α} (c : zrc fs fn K) (i : Nat) (h : (fs[i]?.map fun f => f K) = some (decB x y) := by kernel_rfl) : x = y := z2y (c.q i h)
theorem zrc.f {fs : Fs} {fn : List DefB} {K : PySem.W.Frag} (c : zrc fs fn K) (d : DefB) (i : Nat) (hc : d.clo = [] := by rfl) (h : fn[i]? = some d := by kernel_rfl) :
    ∃ oc od osl kV doc pm an ct, K.lookup (He.fAd K d.at_) = some ⟨oc, od, .func (PySem.W.fnOf d.name d.qual d.params d.body d.scope .none kV doc pm an (cdV K (He.fAd K d.at_)) ct), osl⟩ := zaa3 hc (c.fn i h)
/-- the run, looked at piece by piece -/
def obB (fs : Fs) (fn : List DefB) (s : PySem.W.SharedT) : Al := z7g fs fn (HandSHeadRun.getT s)
theorem z23 (fs : Fs) (fn : List DefB) (s : PySem.W.SharedT) : obB fs fn s = (zt1 fs fn).obs s.abs := z5c (HandSHeadRun.getT_eq s)
theorem zz0 {r : PySem.W.OpenRow} {q : Program} {M : Nat} {loose : List Str} {w : World} {f1 f2 : Fs} {n1 n2 : List DefB} (h1 : HandSHeadRun.RunEq r q (zt1 f1 n1) (obB f1 n1) M loose w) (h2 : HandSHeadRun.RunEq r q (zt1 f2 n2) (obB f2 n2) M loose w) : HandSHeadRun.RunEq r q (zt1 (f1 ++ f2) (n1 ++ n2)) (obB (f1 ++ f2) (n1 ++ n2)) M loose w := by
  intro os
  have a := h1 os
  have b := h2 os
  revert a b
  generalize HandSHeadRun.endF _ _ _ _ _ = e
  intro a b
  cases e with
  | none => cases a
  | some s =>
    have a := Option.some.inj a
    have b := Option.some.inj b
    injection a with a1 a2
    injection a2 with a2 a3
    injection b with _ b2
    injection b2 with _ b3
    have e1 : obsB f1 n1 (He.frG (HandSHeadRun.getT s) (asB (HandSHeadRun.getT s))) = valB n1 := (zxt _ _).symm.trans a3
    have e2 : obsB f2 n2 (He.frG (HandSHeadRun.getT s) (asB (HandSHeadRun.getT s))) = valB n2 := (zxt _ _).symm.trans b3
    have e3 : obB (f1 ++ f2) (n1 ++ n2) s = valB (n1 ++ n2) := by
      show frL _ _ = _
      rw [zxt]
      unfold obsB valB at e1 e2 ⊢
      injection e1 with p1 p2
      injection e2 with q1 q2
      rw [List.all_append, p1, q1, List.map_append, List.map_append, p2, q2]
      rfl
    exact congrArg some (Prod.ext a1 (Prod.ext a2 e3))
end HB
namespace DL
open PySem PySem.Spec PyProof.Rows L2
def zfy : List Str → List Value → Bool
  | [], [] => true
  | x :: xs, .str y _ :: us => decide (x = y) && zfy xs us
  | _, _ => false
end DL
namespace M
open PySem PySem.Spec PyProof.Rows L2 DL
def top (i : Nat) : Stmt := PySem.Challenge.pw_moonfall_k19_whole_drawings.main.body.getD i (.Pass ⟨0, 0, 0, 0⟩)
abbrev zdd : Stmt := top 12
abbrev zde : Stmt := top 13
abbrev zai : Stmt := inClass (top 15) 0
abbrev zah : Stmt := inClass (top 16) 0
abbrev zc2 : Stmt := top 35
abbrev zct : Stmt := top 36
abbrev zat : Stmt := inClass (top 37) 0
abbrev zmm : Stmt := top 39
abbrev zao : Stmt := inClass (top 17) 0
abbrev zay : Stmt := inClass (top 15) 1
abbrev zac : Stmt := top 45
abbrev z9 : Stmt := inClass (top 46) 0
abbrev zbl : Stmt := top 48
abbrev zcs : Stmt := top 49
abbrev zbk : Stmt := top 51
abbrev zcr : Stmt := top 50
abbrev zmo : Stmt := top 40
abbrev zmi : Stmt := top 38
abbrev zl2 : Stmt := top 41
abbrev zl6 : Stmt := top 42
abbrev zbo : Stmt := top 53
abbrev zbj : Stmt := top 52
abbrev zbt : Stmt := top 54
abbrev zaq : Stmt := top 25
abbrev za0 : Stmt := inClass (top 17) 4
abbrev zbb : Stmt := top 55
abbrev zdc : Stmt := top 27
abbrev zf5 : Stmt := top 14
abbrev zaz : Stmt := inClass (top 46) 4
abbrev zet : Stmt := top 24
abbrev zbc : Stmt := top 23
abbrev zad : Stmt := inClass (top 46) 5
abbrev zb2 : Stmt := top 65
abbrev zbr : Stmt := top 26
abbrev zba : Stmt := top 28
abbrev zke : Stmt := top 66
def dB0 : HB.DefB := ⟨(("is_whole", none)), "is_whole", "is_whole", defArgs zdd, defBody zdd, defScope zdd, []⟩
def dB1 : HB.DefB := ⟨(("is_point", none)), "is_point", "is_point", defArgs zde, defBody zde, defScope zde, []⟩
def dB2 : HB.DefB := ⟨(("Ground", some "__init__")), "__init__", "Ground.__init__", defArgs zai, defBody zai, defScope zai, []⟩
def dB3 : HB.DefB := ⟨(("Camera", some "__init__")), "__init__", "Camera.__init__", defArgs zah, defBody zah, defScope zah, []⟩
def dB4 : HB.DefB := ⟨(("is_shift", none)), "is_shift", "is_shift", defArgs zc2, defBody zc2, defScope zc2, []⟩
def dB5 : HB.DefB := ⟨(("wrong_aim", none)), "wrong_aim", "wrong_aim", defArgs zct, defBody zct, defScope zct, []⟩
def dB6 : HB.DefB := ⟨(("Deed", some "__init__")), "__init__", "Deed.__init__", defArgs zat, defBody zat, defScope zat, []⟩
def dB7 : HB.DefB := ⟨(("turn", none)), "turn", "turn", defArgs zmm, defBody zmm, defScope zmm, []⟩
def dB8 : HB.DefB := ⟨(("Sky", some "__init__")), "__init__", "Sky.__init__", defArgs zao, defBody zao, defScope zao, []⟩
def dB9 : HB.DefB := ⟨(("Ground", some "__eq__")), "__eq__", "Ground.__eq__", defArgs zay, defBody zay, defScope zay, []⟩
def dB10 : HB.DefB := ⟨(("have_one_ground", none)), "have_one_ground", "have_one_ground", defArgs zac, defBody zac, defScope zac, []⟩
def dB11 : HB.DefB := ⟨(("Craft", some "__init__")), "__init__", "Craft.__init__", defArgs z9, defBody z9, defScope z9, []⟩
def dB12 : HB.DefB := ⟨(("_law_number", none)), "_law_number", "_law_number", defArgs zbl, defBody zbl, defScope zbl, []⟩
def dB13 : HB.DefB := ⟨(("_law_take", none)), "_law_take", "_law_take", defArgs zcs, defBody zcs, defScope zcs, []⟩
def dB14 : HB.DefB := ⟨(("_law_ground", none)), "_law_ground", "_law_ground", defArgs zbk, defBody zbk, defScope zbk, []⟩
def dB15 : HB.DefB := ⟨(("_law_pick", none)), "_law_pick", "_law_pick", defArgs zcr, defBody zcr, defScope zcr, []⟩
def dB16 : HB.DefB := ⟨(("look", none)), "look", "look", defArgs zmo, defBody zmo, defScope zmo, []⟩
def dB17 : HB.DefB := ⟨(("step", none)), "step", "step", defArgs zmi, defBody zmi, defScope zmi, []⟩
def dB18 : HB.DefB := ⟨(("land", none)), "land", "land", defArgs zl2, defBody zl2, defScope zl2, []⟩
def dB19 : HB.DefB := ⟨(("away", none)), "away", "away", defArgs zl6, defBody zl6, defScope zl6, []⟩
def dB20 : HB.DefB := ⟨(("_law_deeds", none)), "_law_deeds", "_law_deeds", defArgs zbo, defBody zbo, defScope zbo, []⟩
def dB21 : HB.DefB := ⟨(("_law_camera", none)), "_law_camera", "_law_camera", defArgs zbj, defBody zbj, defScope zbj, []⟩
def dB22 : HB.DefB := ⟨(("_law_craft", none)), "_law_craft", "_law_craft", defArgs zbt, defBody zbt, defScope zbt, []⟩
def dB23 : HB.DefB := ⟨(("read_ground", none)), "read_ground", "read_ground", defArgs zaq, defBody zaq, defScope zaq, []⟩
def dB24 : HB.DefB := ⟨(("Sky", some "standings")), "standings", "Sky.standings", defArgs za0, defBody za0, defScope za0, []⟩
def dB25 : HB.DefB := ⟨(("_law_belief", none)), "_law_belief", "_law_belief", defArgs zbb, defBody zbb, defScope zbb, []⟩
def dB26 : HB.DefB := ⟨(("is_clear", none)), "is_clear", "is_clear", defArgs zdc, defBody zdc, defScope zdc, []⟩
def dB27 : HB.DefB := ⟨(("turned", none)), "turned", "turned", defArgs zf5, defBody zf5, defScope zf5, []⟩
def dB28 : HB.DefB := ⟨(("Craft", some "is_safe")), "is_safe", "Craft.is_safe", defArgs zaz, defBody zaz, defScope zaz, []⟩
def dB29 : HB.DefB := ⟨(("sign_of", none)), "sign_of", "sign_of", defArgs zet, defBody zet, defScope zet, []⟩
def dB30 : HB.DefB := ⟨(("draw_ground", none)), "draw_ground", "draw_ground", defArgs zbc, defBody zbc, defScope zbc, []⟩
def dB31 : HB.DefB := ⟨(("Craft", some "cell_below")), "cell_below", "Craft.cell_below", defArgs zad, defBody zad, defScope zad, []⟩
def dB32 : HB.DefB := ⟨(("_law_fault", none)), "_law_fault", "_law_fault", defArgs zb2, defBody zb2, defScope zb2, []⟩
def dB33 : HB.DefB := ⟨(("draw_clear", none)), "draw_clear", "draw_clear", defArgs zbr, defBody zbr, defScope zbr, []⟩
def dB34 : HB.DefB := ⟨(("draw_belief", none)), "draw_belief", "draw_belief", defArgs zba, defBody zba, defScope zba, []⟩
def dB35 : HB.DefB := ⟨(("law", none)), "law", "law", defArgs zke, defBody zke, defScope zke, []⟩
def dB36 : HB.DefB := ⟨("BadText", some "__init__"), "__init__", "BadText.__init__", defArgs (inClass (top 19) 0), defBody (inClass (top 19) 0), defScope (inClass (top 19) 0), ["__class__"]⟩
def fsB0 : HB.Fs := [
  fun K => PySem.W.codeIn K (HB.cdV K (He.fAd K ("BadText", some "__init__"))) "BadText.__init__",
  fun K => HB.z51 K (HB.cdA K (He.fAd K ("BadText", some "__init__"))) (PySem.Challenge.rw_moonfall_k19_whole_drawings.prog.main.file : Str),
  fun K => HB.zd6 K (HB.clA K (He.fAd K ("BadText", some "__init__"))) (He.ga K "BadText"),
  fun K => HB.seqB K "KINDS" (zfy ["step", "turn", "look", "land", "away"]),
  fun K => HB.decB (PySem.W.nsIn K mainGlobals "KINDS") (some (some (.ref (He.ga K "KINDS")))),
  fun K => HB.decB (PySem.W.nsIn K mainGlobals "Ground") (some (some (.ref (He.ga K "Ground")))),
  fun K => HB.decB (PySem.W.nsIn K mainGlobals "Camera") (some (some (.ref (He.ga K "Camera")))),
  fun K => HB.decB (PySem.W.nsIn K mainGlobals "Sky") (some (some (.ref (He.ga K "Sky")))),
  fun K => HB.decB (PySem.W.nsIn K mainGlobals "BadText") (some (some (.ref (He.ga K "BadText")))),
  fun K => HB.decB (PySem.W.nsIn K mainGlobals "Deed") (some (some (.ref (He.ga K "Deed")))),
  fun K => HB.decB (PySem.W.nsIn K mainGlobals "Craft") (some (some (.ref (He.ga K "Craft")))),
  fun K => HB.decB (PySem.W.nsIn K mainGlobals "is_whole") (some (some (.ref (He.fAd K ("is_whole", none))))),
  fun K => PySem.W.codeIn K (HB.cdV K (He.fAd K ("is_whole", none))) "is_whole",
  fun K => PySem.W.keepIn K (.ref (He.fAd K ("is_whole", none))),
  fun K => HB.decB (PySem.W.nsIn K mainGlobals "is_point") (some (some (.ref (He.fAd K ("is_point", none))))),
  fun K => PySem.W.codeIn K (HB.cdV K (He.fAd K ("is_point", none))) "is_point",
  fun K => PySem.W.keepIn K (.ref (He.fAd K ("is_point", none))),
  fun K => HB.decB (PySem.W.findIn K (.ref (He.ga K "Ground")) "__init__") (some (some (.ref (He.fAd K ("Ground", some "__init__"))))),
  fun K => PySem.W.isFn K (.ref (He.fAd K ("Ground", some "__init__"))),
  fun K => PySem.W.codeIn K (HB.cdV K (He.fAd K ("Ground", some "__init__"))) "Ground.__init__",
  fun K => PySem.W.keepIn K (.ref (He.fAd K ("Ground", some "__init__"))),
  fun K => HB.decB (PySem.W.findIn K (.ref (He.ga K "Camera")) "__init__") (some (some (.ref (He.fAd K ("Camera", some "__init__"))))),
  fun K => PySem.W.isFn K (.ref (He.fAd K ("Camera", some "__init__"))),
  fun K => PySem.W.codeIn K (HB.cdV K (He.fAd K ("Camera", some "__init__"))) "Camera.__init__",
  fun K => PySem.W.keepIn K (.ref (He.fAd K ("Camera", some "__init__"))),
  fun K => HB.decB (PySem.W.nsIn K mainGlobals "is_shift") (some (some (.ref (He.fAd K ("is_shift", none))))),
  fun K => PySem.W.codeIn K (HB.cdV K (He.fAd K ("is_shift", none))) "is_shift",
  fun K => PySem.W.keepIn K (.ref (He.fAd K ("is_shift", none))),
  fun K => HB.decB (PySem.W.nsIn K mainGlobals "wrong_aim") (some (some (.ref (He.fAd K ("wrong_aim", none))))),
  fun K => PySem.W.codeIn K (HB.cdV K (He.fAd K ("wrong_aim", none))) "wrong_aim"]
def fsB1 : HB.Fs := [
  fun K => PySem.W.keepIn K (.ref (He.fAd K ("wrong_aim", none))),
  fun K => HB.decB (PySem.W.findIn K (.ref (He.ga K "Deed")) "__init__") (some (some (.ref (He.fAd K ("Deed", some "__init__"))))),
  fun K => PySem.W.isFn K (.ref (He.fAd K ("Deed", some "__init__"))),
  fun K => PySem.W.codeIn K (HB.cdV K (He.fAd K ("Deed", some "__init__"))) "Deed.__init__",
  fun K => PySem.W.keepIn K (.ref (He.fAd K ("Deed", some "__init__"))),
  fun K => HB.decB (PySem.W.nsIn K mainGlobals "turn") (some (some (.ref (He.fAd K ("turn", none))))),
  fun K => PySem.W.codeIn K (HB.cdV K (He.fAd K ("turn", none))) "turn",
  fun K => PySem.W.keepIn K (.ref (He.fAd K ("turn", none))),
  fun K => HB.decB (PySem.W.findIn K (.ref (He.ga K "Sky")) "__init__") (some (some (.ref (He.fAd K ("Sky", some "__init__"))))),
  fun K => PySem.W.isFn K (.ref (He.fAd K ("Sky", some "__init__"))),
  fun K => PySem.W.codeIn K (HB.cdV K (He.fAd K ("Sky", some "__init__"))) "Sky.__init__",
  fun K => PySem.W.keepIn K (.ref (He.fAd K ("Sky", some "__init__"))),
  fun K => HB.decB (PySem.W.findIn K (.ref (He.ga K "Ground")) "__eq__") (some (some (.ref (He.fAd K ("Ground", some "__eq__"))))),
  fun K => PySem.W.isFn K (.ref (He.fAd K ("Ground", some "__eq__"))),
  fun K => PySem.W.codeIn K (HB.cdV K (He.fAd K ("Ground", some "__eq__"))) "Ground.__eq__",
  fun K => PySem.W.keepIn K (.ref (He.fAd K ("Ground", some "__eq__"))),
  fun K => HB.decB (PySem.W.nsIn K mainGlobals "have_one_ground") (some (some (.ref (He.fAd K ("have_one_ground", none))))),
  fun K => PySem.W.codeIn K (HB.cdV K (He.fAd K ("have_one_ground", none))) "have_one_ground",
  fun K => PySem.W.keepIn K (.ref (He.fAd K ("have_one_ground", none))),
  fun K => HB.decB (PySem.W.findIn K (.ref (He.ga K "Craft")) "__init__") (some (some (.ref (He.fAd K ("Craft", some "__init__"))))),
  fun K => PySem.W.isFn K (.ref (He.fAd K ("Craft", some "__init__"))),
  fun K => PySem.W.codeIn K (HB.cdV K (He.fAd K ("Craft", some "__init__"))) "Craft.__init__",
  fun K => PySem.W.keepIn K (.ref (He.fAd K ("Craft", some "__init__"))),
  fun K => HB.decB (PySem.W.nsIn K mainGlobals "_law_number") (some (some (.ref (He.fAd K ("_law_number", none))))),
  fun K => PySem.W.codeIn K (HB.cdV K (He.fAd K ("_law_number", none))) "_law_number",
  fun K => PySem.W.keepIn K (.ref (He.fAd K ("_law_number", none))),
  fun K => HB.decB (PySem.W.nsIn K mainGlobals "_law_take") (some (some (.ref (He.fAd K ("_law_take", none))))),
  fun K => PySem.W.codeIn K (HB.cdV K (He.fAd K ("_law_take", none))) "_law_take",
  fun K => PySem.W.keepIn K (.ref (He.fAd K ("_law_take", none))),
  fun K => HB.decB (PySem.W.nsIn K mainGlobals "_law_ground") (some (some (.ref (He.fAd K ("_law_ground", none)))))]
def fsB2 : HB.Fs := [
  fun K => PySem.W.codeIn K (HB.cdV K (He.fAd K ("_law_ground", none))) "_law_ground",
  fun K => PySem.W.keepIn K (.ref (He.fAd K ("_law_ground", none))),
  fun K => HB.decB (PySem.W.nsIn K mainGlobals "_law_pick") (some (some (.ref (He.fAd K ("_law_pick", none))))),
  fun K => PySem.W.codeIn K (HB.cdV K (He.fAd K ("_law_pick", none))) "_law_pick",
  fun K => PySem.W.keepIn K (.ref (He.fAd K ("_law_pick", none))),
  fun K => HB.decB (PySem.W.nsIn K mainGlobals "look") (some (some (.ref (He.fAd K ("look", none))))),
  fun K => PySem.W.codeIn K (HB.cdV K (He.fAd K ("look", none))) "look",
  fun K => PySem.W.keepIn K (.ref (He.fAd K ("look", none))),
  fun K => HB.decB (PySem.W.nsIn K mainGlobals "step") (some (some (.ref (He.fAd K ("step", none))))),
  fun K => PySem.W.codeIn K (HB.cdV K (He.fAd K ("step", none))) "step",
  fun K => PySem.W.keepIn K (.ref (He.fAd K ("step", none))),
  fun K => HB.decB (PySem.W.nsIn K mainGlobals "land") (some (some (.ref (He.fAd K ("land", none))))),
  fun K => PySem.W.codeIn K (HB.cdV K (He.fAd K ("land", none))) "land",
  fun K => PySem.W.keepIn K (.ref (He.fAd K ("land", none))),
  fun K => HB.decB (PySem.W.nsIn K mainGlobals "away") (some (some (.ref (He.fAd K ("away", none))))),
  fun K => PySem.W.codeIn K (HB.cdV K (He.fAd K ("away", none))) "away",
  fun K => PySem.W.keepIn K (.ref (He.fAd K ("away", none))),
  fun K => HB.decB (PySem.W.nsIn K mainGlobals "_law_deeds") (some (some (.ref (He.fAd K ("_law_deeds", none))))),
  fun K => PySem.W.codeIn K (HB.cdV K (He.fAd K ("_law_deeds", none))) "_law_deeds",
  fun K => PySem.W.keepIn K (.ref (He.fAd K ("_law_deeds", none))),
  fun K => HB.decB (PySem.W.nsIn K mainGlobals "_law_camera") (some (some (.ref (He.fAd K ("_law_camera", none))))),
  fun K => PySem.W.codeIn K (HB.cdV K (He.fAd K ("_law_camera", none))) "_law_camera",
  fun K => PySem.W.keepIn K (.ref (He.fAd K ("_law_camera", none))),
  fun K => HB.decB (PySem.W.nsIn K mainGlobals "_law_craft") (some (some (.ref (He.fAd K ("_law_craft", none))))),
  fun K => PySem.W.codeIn K (HB.cdV K (He.fAd K ("_law_craft", none))) "_law_craft",
  fun K => PySem.W.keepIn K (.ref (He.fAd K ("_law_craft", none))),
  fun K => HB.decB (PySem.W.nsIn K mainGlobals "read_ground") (some (some (.ref (He.fAd K ("read_ground", none))))),
  fun K => PySem.W.codeIn K (HB.cdV K (He.fAd K ("read_ground", none))) "read_ground",
  fun K => PySem.W.keepIn K (.ref (He.fAd K ("read_ground", none))),
  fun K => HB.decB (PySem.W.findIn K (.ref (He.ga K "Sky")) "standings") (some (some (.ref (He.fAd K ("Sky", some "standings")))))]
def fsB3 : HB.Fs := [
  fun K => PySem.W.isFn K (.ref (He.fAd K ("Sky", some "standings"))),
  fun K => PySem.W.codeIn K (HB.cdV K (He.fAd K ("Sky", some "standings"))) "Sky.standings",
  fun K => PySem.W.keepIn K (.ref (He.fAd K ("Sky", some "standings"))),
  fun K => HB.decB (PySem.W.nsIn K mainGlobals "_law_belief") (some (some (.ref (He.fAd K ("_law_belief", none))))),
  fun K => PySem.W.codeIn K (HB.cdV K (He.fAd K ("_law_belief", none))) "_law_belief",
  fun K => PySem.W.keepIn K (.ref (He.fAd K ("_law_belief", none))),
  fun K => HB.decB (PySem.W.nsIn K mainGlobals "is_clear") (some (some (.ref (He.fAd K ("is_clear", none))))),
  fun K => PySem.W.codeIn K (HB.cdV K (He.fAd K ("is_clear", none))) "is_clear",
  fun K => PySem.W.keepIn K (.ref (He.fAd K ("is_clear", none))),
  fun K => HB.decB (PySem.W.nsIn K mainGlobals "turned") (some (some (.ref (He.fAd K ("turned", none))))),
  fun K => PySem.W.codeIn K (HB.cdV K (He.fAd K ("turned", none))) "turned",
  fun K => PySem.W.keepIn K (.ref (He.fAd K ("turned", none))),
  fun K => HB.decB (PySem.W.findIn K (.ref (He.ga K "Craft")) "is_safe") (some (some (.ref (He.fAd K ("Craft", some "is_safe"))))),
  fun K => PySem.W.isFn K (.ref (He.fAd K ("Craft", some "is_safe"))),
  fun K => PySem.W.codeIn K (HB.cdV K (He.fAd K ("Craft", some "is_safe"))) "Craft.is_safe",
  fun K => PySem.W.keepIn K (.ref (He.fAd K ("Craft", some "is_safe"))),
  fun K => HB.decB (PySem.W.nsIn K mainGlobals "sign_of") (some (some (.ref (He.fAd K ("sign_of", none))))),
  fun K => PySem.W.codeIn K (HB.cdV K (He.fAd K ("sign_of", none))) "sign_of",
  fun K => PySem.W.keepIn K (.ref (He.fAd K ("sign_of", none))),
  fun K => HB.decB (PySem.W.nsIn K mainGlobals "draw_ground") (some (some (.ref (He.fAd K ("draw_ground", none))))),
  fun K => PySem.W.codeIn K (HB.cdV K (He.fAd K ("draw_ground", none))) "draw_ground",
  fun K => PySem.W.keepIn K (.ref (He.fAd K ("draw_ground", none))),
  fun K => HB.decB (PySem.W.findIn K (.ref (He.ga K "Craft")) "cell_below") (some (some (.ref (He.fAd K ("Craft", some "cell_below"))))),
  fun K => PySem.W.isFn K (.ref (He.fAd K ("Craft", some "cell_below"))),
  fun K => PySem.W.codeIn K (HB.cdV K (He.fAd K ("Craft", some "cell_below"))) "Craft.cell_below",
  fun K => PySem.W.keepIn K (.ref (He.fAd K ("Craft", some "cell_below"))),
  fun K => HB.decB (PySem.W.nsIn K mainGlobals "_law_fault") (some (some (.ref (He.fAd K ("_law_fault", none))))),
  fun K => PySem.W.codeIn K (HB.cdV K (He.fAd K ("_law_fault", none))) "_law_fault",
  fun K => PySem.W.keepIn K (.ref (He.fAd K ("_law_fault", none))),
  fun K => HB.decB (PySem.W.nsIn K mainGlobals "draw_clear") (some (some (.ref (He.fAd K ("draw_clear", none)))))]
def fsB4 : HB.Fs := [
  fun K => PySem.W.codeIn K (HB.cdV K (He.fAd K ("draw_clear", none))) "draw_clear",
  fun K => PySem.W.keepIn K (.ref (He.fAd K ("draw_clear", none))),
  fun K => HB.decB (PySem.W.nsIn K mainGlobals "draw_belief") (some (some (.ref (He.fAd K ("draw_belief", none))))),
  fun K => PySem.W.codeIn K (HB.cdV K (He.fAd K ("draw_belief", none))) "draw_belief",
  fun K => PySem.W.keepIn K (.ref (He.fAd K ("draw_belief", none))),
  fun K => HB.decB (PySem.W.nsIn K mainGlobals "law") (some (some (.ref (He.fAd K ("law", none))))),
  fun K => PySem.W.codeIn K (HB.cdV K (He.fAd K ("law", none))) "law",
  fun K => PySem.W.keepIn K (.ref (He.fAd K ("law", none))),
  fun K => PySem.W.plainGet K (He.ga K "Ground") Str.empty,
  fun K => PySem.W.hasDictIn K (He.ga K "Ground"),
  fun K => PySem.W.plainOver K (He.ga K "Ground"),
  fun K => HB.decB (PySem.W.findIn K (.ref (He.ga K "Ground")) "__setattr__") (some (some (.builtin "object.__setattr__"))),
  fun K => HB.decB (PySem.W.findIn K (.ref (He.ga K "Ground")) "__class__") (some (some (.builtin "object.__class__"))),
  fun K => HB.decB (PySem.W.mroIn K (He.ga K "Ground") (.type "object")) (some true),
  fun K => PySem.W.makesIn K (He.ga K "Ground"),
  fun K => PySem.W.keepIn K (.ref (He.ga K "Ground")),
  fun K => PySem.W.plainGet K (He.ga K "Camera") Str.empty,
  fun K => PySem.W.hasDictIn K (He.ga K "Camera"),
  fun K => PySem.W.plainOver K (He.ga K "Camera"),
  fun K => HB.decB (PySem.W.findIn K (.ref (He.ga K "Camera")) "__setattr__") (some (some (.builtin "object.__setattr__"))),
  fun K => PySem.W.makesIn K (He.ga K "Camera"),
  fun K => PySem.W.keepIn K (.ref (He.ga K "Camera")),
  fun K => PySem.W.plainGet K (He.ga K "Sky") Str.empty,
  fun K => PySem.W.hasDictIn K (He.ga K "Sky"),
  fun K => PySem.W.plainOver K (He.ga K "Sky"),
  fun K => HB.decB (PySem.W.findIn K (.ref (He.ga K "Sky")) "__setattr__") (some (some (.builtin "object.__setattr__"))),
  fun K => HB.decB (PySem.W.findIn K (.ref (He.ga K "Sky")) "__class__") (some (some (.builtin "object.__class__"))),
  fun K => HB.decB (PySem.W.mroIn K (He.ga K "Sky") (.type "object")) (some true),
  fun K => PySem.W.makesIn K (He.ga K "Sky"),
  fun K => PySem.W.keepIn K (.ref (He.ga K "Sky"))]
def fsB5 : HB.Fs := [
  fun K => PySem.W.plainGet K (He.ga K "Deed") Str.empty,
  fun K => PySem.W.hasDictIn K (He.ga K "Deed"),
  fun K => PySem.W.plainOver K (He.ga K "Deed"),
  fun K => HB.decB (PySem.W.findIn K (.ref (He.ga K "Deed")) "__setattr__") (some (some (.builtin "object.__setattr__"))),
  fun K => HB.decB (PySem.W.findIn K (.ref (He.ga K "Deed")) "__class__") (some (some (.builtin "object.__class__"))),
  fun K => HB.decB (PySem.W.mroIn K (He.ga K "Deed") (.type "object")) (some true),
  fun K => PySem.W.makesIn K (He.ga K "Deed"),
  fun K => PySem.W.keepIn K (.ref (He.ga K "Deed")),
  fun K => PySem.W.plainGet K (He.ga K "Craft") Str.empty,
  fun K => PySem.W.hasDictIn K (He.ga K "Craft"),
  fun K => PySem.W.plainOver K (He.ga K "Craft"),
  fun K => HB.decB (PySem.W.findIn K (.ref (He.ga K "Craft")) "__setattr__") (some (some (.builtin "object.__setattr__"))),
  fun K => PySem.W.makesIn K (He.ga K "Craft"),
  fun K => PySem.W.keepIn K (.ref (He.ga K "Craft")),
  fun K => HB.decB (PySem.W.specialIn K (.builtin "object.__class__") "__get__") (some (some (.builtin "getset_descriptor.__get__"))),
  fun K => HB.decB (PySem.W.takesIn K (.builtin "object.__class__")) (some true),
  fun K => HB.decB (PySem.W.findIn K (.ref (He.ga K "Ground")) "__ne__") (some (some (.builtin "object.__ne__"))),
  fun K => HB.decB (PySem.W.findIn K (.ref (He.ga K "Ground")) "craters") (some none),
  fun K => HB.decB (PySem.W.findIn K (.ref (He.ga K "Camera")) "width") (some none),
  fun K => HB.decB (PySem.W.findIn K (.ref (He.ga K "Camera")) "height") (some none),
  fun K => HB.decB (PySem.W.findIn K (.ref (He.ga K "Camera")) "error") (some none),
  fun K => HB.decB (PySem.W.findIn K (.ref (He.ga K "Camera")) "false") (some none),
  fun K => HB.decB (PySem.W.findIn K (.ref (He.ga K "Camera")) "lost") (some none),
  fun K => HB.decB (PySem.W.findIn K (.ref (He.ga K "Deed")) "kind") (some none),
  fun K => HB.decB (PySem.W.findIn K (.ref (He.ga K "Deed")) "fuel") (some none),
  fun K => HB.decB (PySem.W.findIn K (.ref (He.ga K "Deed")) "aim") (some none),
  fun K => HB.decB (PySem.W.findIn K (.ref (He.ga K "Deed")) "slips") (some none),
  fun K => HB.decB (PySem.W.findIn K (.ref (He.ga K "Sky")) "ground") (some none),
  fun K => HB.decB (PySem.W.findIn K (.ref (He.ga K "Sky")) "camera") (some none),
  fun K => HB.decB (PySem.W.findIn K (.ref (He.ga K "Sky")) "turns") (some none)]
def fsB6 : HB.Fs := [
  fun K => HB.decB (PySem.W.findIn K (.ref (He.ga K "Sky")) "area") (some none),
  fun K => HB.decB (PySem.W.findIn K (.ref (He.ga K "Craft")) "skies") (some none),
  fun K => HB.decB (PySem.W.findIn K (.ref (He.ga K "Craft")) "foot") (some none),
  fun K => HB.decB (PySem.W.findIn K (.ref (He.ga K "Craft")) "room") (some none),
  fun K => HB.decB (PySem.W.findIn K (.ref (He.ga K "Craft")) "deeds") (some none),
  fun K => PySem.W.hasDictIn K (He.ga K "BadText"),
  fun K => HB.decB (PySem.W.subIn K (.ref (He.ga K "BadText")) (.type "BaseException")) (some true),
  fun K => HB.decB (PySem.W.typeIn K (.ref (He.ga K "BadText"))) (some (.type "type")),
  fun K => HB.decB (PySem.W.findIn K (.ref (He.ga K "BadText")) "__getattribute__") (some (some (.builtin "BaseException.__getattribute__"))),
  fun K => HB.decB (PySem.W.findIn K (.ref (He.ga K "BadText")) "__getattr__") (some none),
  fun K => HB.decB (PySem.W.subIn K (.ref (He.ga K "BadText")) (.ref (He.ga K "BadText"))) (some true),
  fun K => HB.decB (PySem.W.findIn K (.ref (He.ga K "BadText")) "line") (some none),
  fun K => HB.decB (PySem.W.findIn K (.ref (He.ga K "BadText")) "word") (some none),
  fun K => PySem.W.excInitIn K (He.ga K "BadText") PySem.ESX.exTail "Exception.__new__",
  fun K => PySem.W.excOver K (He.ga K "BadText") PySem.ESX.exTail,
  fun K => HB.decB (PySem.W.takerIn K (He.ga K "BadText") "line") (some none),
  fun K => HB.decB (PySem.W.takerIn K (He.ga K "BadText") "word") (some none),
  fun K => HB.decB (PySem.W.findIn K (.ref (He.ga K "BadText")) "__setattr__") (some (some (.builtin "object.__setattr__"))),
  fun K => HB.decB (PySem.W.findIn K (.ref (He.ga K "BadText")) "__init__") (some (some (.ref (He.fAd K ("BadText", some "__init__"))))),
  fun K => PySem.W.isFn K (.ref (He.fAd K ("BadText", some "__init__"))),
  fun K => PySem.W.keepIn K (.ref (He.ga K "BadText")),
  fun K => HB.decB (PySem.W.subIn K (.ref (He.ga K "BadText")) (.type "Exception")) (some true),
  fun K => HB.decB (PySem.W.mroIn K (He.ga K "BadText") (.ref (He.ga K "BadText"))) (some true),
  fun K => HB.decB (PySem.W.ks_superIn K (He.ga K "BadText") (He.ga K "BadText") "__init__") (some (some (.builtin "Exception.__init__"))),
  fun K => PySem.W.codeIn K (.ref (HB.cdA K (He.fAd K ("BadText", some "__init__")))) "BadText.__init__",
  fun K => HB.decB (PySem.W.nsIn K cStatics "thirdparty.any") (some none),
  fun K => HB.decB (PySem.W.nsIn K mainGlobals "super") (some none),
  fun K => HB.decB (PySem.W.nsIn K mainGlobals "bool") (some none),
  fun K => HB.decB (PySem.W.nsIn K mainGlobals "isinstance") (some none),
  fun K => HB.decB (PySem.W.nsIn K mainGlobals "int") (some none)]
def fsB7 : HB.Fs := [
  fun K => HB.decB (PySem.W.nsIn K mainGlobals "len") (some none),
  fun K => HB.decB (PySem.W.nsIn K mainGlobals "tuple") (some none),
  fun K => HB.decB (PySem.W.nsIn K mainGlobals "enumerate") (some none),
  fun K => HB.decB (PySem.W.nsIn K mainGlobals "sorted") (some none),
  fun K => HB.decB (PySem.W.nsIn K mainGlobals "all") (some none),
  fun K => HB.decB (PySem.W.nsIn K mainGlobals "set") (some none),
  fun K => HB.decB (PySem.W.nsIn K mainGlobals "zip") (some none),
  fun K => HB.decB (PySem.W.nsIn K mainGlobals "any") (some none),
  fun K => HB.decB (PySem.W.nsIn K mainGlobals "range") (some none),
  fun K => HB.decB (PySem.W.nsIn K mainGlobals "abs") (some none),
  fun K => HB.decB (PySem.W.nsIn K mainGlobals "max") (some none),
  fun K => HB.decB (PySem.W.nsIn K mainGlobals "str") (some none),
  fun K => HB.decB (PySem.W.nsIn K mainGlobals "list") (some none),
  fun K => HB.intB K "MOST_SIZE" 99,
  fun K => HB.intB K "MOST_PLACE" 1000000,
  fun K => HB.intB K "MOST_COUNT" 100,
  fun K => HB.intB K "MOST_SIDE_grounds" 1000,
  fun K => HB.intB K "MOST" 1000,
  fun K => HB.intB K "MOST_STANDINGS" 40000,
  fun K => HB.intB K "MOST_ROOM" 1000,
  fun K => HB.intB K "MOST_SIDE_drawings" 100,
  fun K => HB.strB K "FIGURES" "123456789"]
def fpB0 : HB.Fs := fsB0 ++ (fsB1)
def fpB1 : HB.Fs := fsB2 ++ (fsB3)
def fpB2 : HB.Fs := fsB4 ++ (fsB5)
def fpB3 : HB.Fs := fsB6 ++ (fsB7)
def fnB0 : List HB.DefB := [dB0, dB1, dB2, dB3, dB4, dB5, dB6, dB7, dB8]
def fnB1 : List HB.DefB := [dB9, dB10, dB11, dB12, dB13, dB14, dB15, dB16, dB17]
def fnB2 : List HB.DefB := [dB18, dB19, dB20, dB21, dB22, dB23, dB24, dB25, dB26]
def fnB3 : List HB.DefB := [dB27, dB28, dB29, dB30, dB31, dB32, dB33, dB34, dB35, dB36]
def fsB : HB.Fs := fpB0 ++ (fpB1 ++ (fpB2 ++ (fpB3)))
def fnB : List HB.DefB := fnB0 ++ (fnB1 ++ (fnB2 ++ (fnB3)))
def zuz : List Str := (["_wall", "__name__", "MoonError", "BadGround", "BadCamera", "BadSky", "MOST_PLACE", "MOST_SIZE", "MOST_SIDE_grounds", "MOST_COUNT", "MOST_STANDINGS", "is_whole", "is_point", "turned", "Ground", "Camera", "Sky", "BadText", "FIGURES", "MOST_SIDE_drawings", "draw_ground", "sign_of", "read_ground", "draw_clear", "is_clear"] : List Str) ++ ((["draw_belief", "BadDeed", "BadCraft", "KINDS", "MOST", "is_shift", "wrong_aim", "Deed", "step", "turn", "look", "land", "away", "MOST_ROOM", "have_one_ground", "Craft", "_law_number", "_law_take", "_law_pick", "_law_ground", "_law_camera", "_law_deeds", "_law_craft", "_law_belief", "_law_view"] : List Str) ++ ((["_law_fits", "_law_pictures", "_law_answers", "_law_ends", "_law_whole", "_law_sets", "_law_sure", "_law_good", "_law_fault"] : List Str)))
abbrev hkB : PySem.W.Hook := HB.zt1 fsB fnB
abbrev obB : PySem.W.SharedT → HB.Al := HB.obB fsB fnB
theorem z23 (s : PySem.W.SharedT) : obB s = hkB.obs s.abs := HB.z23 fsB fnB s
theorem zabm (w : World) : HandSHeadRun.RunEq (PySem.W.OpenLaw.row PySem.Challenge.rw_moonfall_k19_whole_drawings) (PySem.W.view (PySem.W.OpenLaw.row PySem.Challenge.rw_moonfall_k19_whole_drawings).prog [66]) (HB.zt1 fpB0 fnB0) (HB.obB fpB0 fnB0) 20000 zuz w := by
  intro os
  kernel_rfl
theorem zabp (w : World) : HandSHeadRun.RunEq (PySem.W.OpenLaw.row PySem.Challenge.rw_moonfall_k19_whole_drawings) (PySem.W.view (PySem.W.OpenLaw.row PySem.Challenge.rw_moonfall_k19_whole_drawings).prog [66]) (HB.zt1 fpB1 fnB1) (HB.obB fpB1 fnB1) 20000 zuz w := by
  intro os
  kernel_rfl
theorem zaa0 (w : World) : HandSHeadRun.RunEq (PySem.W.OpenLaw.row PySem.Challenge.rw_moonfall_k19_whole_drawings) (PySem.W.view (PySem.W.OpenLaw.row PySem.Challenge.rw_moonfall_k19_whole_drawings).prog [66]) (HB.zt1 fpB2 fnB2) (HB.obB fpB2 fnB2) 20000 zuz w := by
  intro os
  kernel_rfl
theorem zabx (w : World) : HandSHeadRun.RunEq (PySem.W.OpenLaw.row PySem.Challenge.rw_moonfall_k19_whole_drawings) (PySem.W.view (PySem.W.OpenLaw.row PySem.Challenge.rw_moonfall_k19_whole_drawings).prog [66]) (HB.zt1 fpB3 fnB3) (HB.obB fpB3 fnB3) 20000 zuz w := by
  intro os
  kernel_rfl
theorem runB (w : World) : HandSHeadRun.RunEq (PySem.W.OpenLaw.row PySem.Challenge.rw_moonfall_k19_whole_drawings) (PySem.W.view (PySem.W.OpenLaw.row PySem.Challenge.rw_moonfall_k19_whole_drawings).prog [66]) hkB obB 20000 zuz w :=
  HB.zz0 (zabm w) (HB.zz0 (zabp w) (HB.zz0 (zaa0 w) (zabx w)))
end M
namespace DL
open PySem PySem.Spec PyProof.Rows L2
inductive Kd where
  | tup | lst | scr | ins (C : Addr) (fs : List Str) | dK (ks : List Key) | dN (ks : List NestedKey)
/-- a value as a tree; ref: an object that is tracked by its address (or one of the text) -/
inductive D where
  | non | bl (b : Bool) | int (i : Int) | str (x : Str) | ty (n : String) | ref (a : Addr)
  | nd (k : Kd) (ds : List D)
abbrev D.tup (ds : List D) : D := .nd .tup ds
abbrev D.lst (ds : List D) : D := .nd .lst ds
/-- what may change: it is held by its address -/
inductive DO where
  | lst (ds : List D) | dK (kvs : List (Key × D)) | dN (kvs : List (NestedKey × D)) | ins (C : Addr) (fs : List (Str × D)) | rw (es : Array DictEntry) (ep : Nat) (kvs : List (NestedKey × D))
abbrev DHp := Addr → Option DO
def up (G : DHp) (a : Addr) (o : DO) : DHp := fun b => if b = a then some o else G b
def dl (G : DHp) (a : Addr) : DHp := fun b => if b = a then none else G b
theorem zo {G : DHp} {a : Addr} {o : DO} : up G a o a = some o := by unfold up; rw [if_pos rfl]
theorem zq8 {G : DHp} {a b : Addr} {o : DO} (h : b ≠ a) : up G a o b = G b := by unfold up; rw [if_neg h]
theorem znx {G : DHp} {a : Addr} : dl G a a = none := by unfold dl; rw [if_pos rfl]
theorem z5e {G : DHp} {a b : Addr} (h : b ≠ a) : dl G a b = G b := by unfold dl; rw [if_neg h]
theorem zfe {G : DHp} {a : Addr} {o u : DO} : up (up G a o) a u = up G a u := by funext b; unfold up; split <;> rfl
theorem zc8 {G : DHp} {a : Addr} {o : DO} (h : G a = none) : dl (up G a o) a = G := by
  funext b
  unfold dl up
  by_cases e : b = a
  · subst e; rw [if_pos rfl, h]
  · rw [if_neg e, if_neg e]
theorem zol {G : DHp} {a b : Addr} {o u : DO} (h : a ≠ b) : up (up G a o) b u = up (up G b u) a o := by
  funext c; simp only [up]
  by_cases e : c = a
  · subst e; simp [h]
  · simp [e]
theorem zw0 {G : DHp} {a b : Addr} {o : DO} (h : a ≠ b) : dl (up G a o) b = up (dl G b) a o := by
  funext c; simp only [up, dl]
  by_cases e : c = a
  · subst e; simp [h]
  · simp [e]
/-- what is fixed: the written part, the world -/
structure Ml where
  K : PySem.W.Frag
  w : World
abbrev _root_.L2.Cx.ml (X : Cx) : Ml := ⟨X.K, X.w⟩
mutual
def nkD : NestedKey → D
  | .none => .non
  | .num i => .int i
  | .text x => .str x
  | .tup ks => .nd .tup (nkDs ks)
def nkDs : List NestedKey → List D
  | [] => []
  | k :: ks => nkD k :: nkDs ks
end
mutual
def D.key : D → Option NestedKey
  | .non => some .none
  | .int i => some (.num i)
  | .str x => some (.text x)
  | .nd .tup ds => (D.keys ds).map .tup
  | _ => none
def D.keys : List D → Option (List NestedKey)
  | [] => some []
  | d :: ds => match D.key d, D.keys ds with
    | some k, some ks => some (k :: ks)
    | _, _ => none
end
/-- an entry of a dict with nested keys -/
def entN (w : World) (x : NestedKey × Addr × Value) : DictEntry := ⟨x.1.hash w, .ref x.2.1, x.2.2⟩
/-- the object at a is a dict with just these entries -/
def rawO (a : Addr) (es : Array DictEntry) (ep : Nat) : HO := .ext fun h => h.DictRaw a es ep
section
variable (K : Ml) (H : Hp) (G : DHp)
mutual
def zii : NestedKey → V → Prop
  | .none, v => v = .non
  | .num i, v => v = .int i
  | .text x, v => v = .str x
  | .tup ks, v => ∃ a vs, v = .ref a ∧ SqT K.K H a vs ∧ KeysAt ks vs
def KeysAt : List NestedKey → List V → Prop
  | [], vs => vs = []
  | k :: ks, vs => ∃ v r, vs = v :: r ∧ zii k v ∧ KeysAt ks r
end
/-- a dict with nested keys ks and values vs at a -/
def DnAt (a : Addr) (ks : List NestedKey) (vs : List V) : Prop :=
  ∃ (xs : List (NestedKey × Addr × Value)) (es : Array DictEntry) (ep : Nat), H a = some (rawO a es ep) ∧ (a == sysModules) = false ∧ es.toList = xs.map (entN K.w) ∧ xs.map (·.1) = ks ∧ ks.Nodup ∧ ks.length ≤ sizeLine ∧
    (∀ x ∈ xs, zii K H x.1 (.ref x.2.1) ∧ x.1.depth ≤ 8) ∧ Vals vs (xs.map (·.2.2))
/-- the same, the entries told -/
def DnE (a : Addr) (es : Array DictEntry) (ep : Nat) (ks : List NestedKey) (vs : List V) : Prop :=
  ∃ (xs : List (NestedKey × Addr × Value)), H a = some (rawO a es ep) ∧ (a == sysModules) = false ∧ es.toList = xs.map (entN K.w) ∧ xs.map (·.1) = ks ∧ ks.Nodup ∧ ks.length ≤ sizeLine ∧
    (∀ x ∈ xs, zii K H x.1 (.ref x.2.1) ∧ x.1.depth ≤ 8) ∧ Vals vs (xs.map (·.2.2))
/-- at a stands an object of the kind with the items vs -/
def Held : Kd → Addr → List V → Prop
  | .tup, a, vs => SqT K.K H a vs
  | .lst, a, vs => G a = none ∧ H a = some (.lst vs)
  | .scr, a, vs => (∃ o, H a = some (.frz o (.lst vs))) ∨
      ∃ (o : Obj) (its : Array Value) (n : Nat), K.K.lookup a = some o ∧ o.cls = .type "list" ∧ o.dict = none ∧ o.data = .seq its n ∧ its.size ≤ sizeLine ∧ Vals vs its.toList
  | .ins C fs, a, vs => G a = none ∧ fs.length = vs.length ∧ ∃ dx, H a = some (.ins C dx (fs.zip vs))
  | .dK ks, a, vs => ks.length = vs.length ∧ ∃ o, H a = some (.frz o (.dK (ks.zip vs)))
  | .dN ks, a, vs => G a = none ∧ DnAt K H a ks vs
mutual
def VR : D → V → Prop
  | .non, v => v = .non
  | .bl b, v => v = .bl b
  | .int i, v => v = .int i
  | .str x, v => v = .str x
  | .ty n, v => v = .ty n
  | .ref a, v => v = .ref a
  | .nd k ds, v => ∃ a vs, v = .ref a ∧ Held K H G k a vs ∧ VRs ds vs
def VRs : List D → List V → Prop
  | [], vs => vs = []
  | d :: ds, vs => ∃ v r, vs = v :: r ∧ VR d v ∧ VRs ds r
end
/-- a tracked object -/
def OR (a : Addr) : DO → Prop
  | .lst ds => ∃ vs, H a = some (.lst vs) ∧ VRs K H G ds vs
  | .dK kvs => ∃ ws, H a = some (.dK ws) ∧ ws.map (·.1) = kvs.map (·.1) ∧ VRs K H G (kvs.map (·.2)) (ws.map (·.2))
  | .dN kvs => ∃ ws, DnAt K H a (kvs.map (·.1)) ws ∧ VRs K H G (kvs.map (·.2)) ws
  | .ins C fs => ∃ dx ws, H a = some (.ins C dx ws) ∧ ws.map (·.1) = fs.map (·.1) ∧ VRs K H G (fs.map (·.2)) (ws.map (·.2))
  | .rw es ep kvs => ∃ ws, DnE K H a es ep (kvs.map (·.1)) ws ∧ VRs K H G (kvs.map (·.2)) ws
def HR : Prop := ∀ a o, G a = some o → OR K H G a o
end
structure Ext (H : Hp) (G : DHp) (H' : Hp) (G' : DHp) : Prop where
  ex : ∀ a u, H a = some u → G a = none → H' a = some u ∧ G' a = none
theorem Ext.refl (H : Hp) (G : DHp) : Ext H G H G := ⟨fun _ _ h n => ⟨h, n⟩⟩
theorem Ext.trans {H G H1 G1 H2 G2} (a : Ext H G H1 G1) (b : Ext H1 G1 H2 G2) : Ext H G H2 G2 :=
  ⟨fun c u h n => let ⟨h1, n1⟩ := a.ex c u h n; b.ex c u h1 n1⟩
section
variable {K : Ml} {H H' : Hp} {G G' : DHp}
theorem OR.not_tup {a : Addr} {o : DO} (h : OR K H G a o) {vs : List V} : ¬ Rd H a (.tup vs) := by
  intro r
  cases o with
  | lst ds =>
    obtain ⟨_, e, _⟩ := h
    rcases r with r | ⟨_, r⟩ <;> rw [e] at r <;> cases r
  | dK ds =>
    obtain ⟨_, e, _⟩ := h
    rcases r with r | ⟨_, r⟩ <;> rw [e] at r <;> cases r
  | dN ds =>
    obtain ⟨_, ⟨_, _, _, e, _⟩, _⟩ := h
    rcases r with r | ⟨_, r⟩ <;> rw [e] at r <;> cases r
  | ins C fs =>
    obtain ⟨_, _, e, _⟩ := h
    rcases r with r | ⟨_, r⟩ <;> rw [e] at r <;> cases r
  | rw es ep kvs =>
    obtain ⟨_, ⟨_, e, _⟩, _⟩ := h
    rcases r with r | ⟨_, r⟩ <;> rw [e] at r <;> cases r
theorem OR.not_frz {a : Addr} {o : DO} (h : OR K H G a o) {ob : Obj} {u : HO} : H a ≠ .some (.frz ob u) := by
  intro r
  cases o with
  | lst ds =>
    obtain ⟨_, e, _⟩ := h
    rw [e] at r; cases r
  | dK ds =>
    obtain ⟨_, e, _⟩ := h
    rw [e] at r; cases r
  | dN ds =>
    obtain ⟨_, ⟨_, _, _, e, _⟩, _⟩ := h
    rw [e] at r; cases r
  | ins C fs =>
    obtain ⟨_, _, e, _⟩ := h
    rw [e] at r; cases r
  | rw es ep kvs =>
    obtain ⟨_, ⟨_, e, _⟩, _⟩ := h
    rw [e] at r; cases r
theorem OR.some {a : Addr} {o : DO} (h : OR K H G a o) : ∃ u, H a = .some u := by
  cases o with
  | lst ds => obtain ⟨_, e, _⟩ := h; exact ⟨_, e⟩
  | dK ds => obtain ⟨_, e, _⟩ := h; exact ⟨_, e⟩
  | dN ds => obtain ⟨_, ⟨_, _, _, e, _⟩, _⟩ := h; exact ⟨_, e⟩
  | ins C fs => obtain ⟨_, _, e, _⟩ := h; exact ⟨_, e⟩
  | rw es ep kvs => obtain ⟨_, ⟨_, e, _⟩, _⟩ := h; exact ⟨_, e⟩
theorem HR.tup (h : HR K H G) {a : Addr} {vs : List V} (r : Rd H a (.tup vs)) : G a = none := by
  cases e : G a with
  | none => rfl
  | some o => exact absurd r (OR.not_tup (h a o e))
theorem HR.frz (h : HR K H G) {a : Addr} {ob : Obj} {u : HO} (r : H a = some (.frz ob u)) : G a = none := by
  cases e : G a with
  | none => rfl
  | some o => exact absurd r (OR.not_frz (h a o e))
theorem HR.free (h : HR K H G) {a : Addr} (r : H a = none) : G a = none := by
  cases e : G a with
  | none => rfl
  | some o => obtain ⟨u, q⟩ := OR.some (h a o e); rw [q] at r; cases r
mutual
theorem zii.ext (hr : HR K H G) (x : Ext H G H' G') : ∀ {k : NestedKey} {v : V}, zii K H k v → zii K H' k v
  | .none, _, h => by rw [zii] at h ⊢; exact h
  | .num _, _, h => by rw [zii] at h ⊢; exact h
  | .text _, _, h => by rw [zii] at h ⊢; exact h
  | .tup ks, _, h => by
    rw [zii] at h ⊢
    obtain ⟨a, vs, e, q, r⟩ := h
    refine ⟨a, vs, e, ?_, KeysAt.ext hr x r⟩
    rcases q with (h | ⟨o, h⟩) | h
    · exact .inl (.inl (x.ex _ _ h (hr.tup (.inl h))).1)
    · exact .inl (.inr ⟨o, (x.ex _ _ h (hr.frz h)).1⟩)
    · exact .inr h
theorem KeysAt.ext (hr : HR K H G) (x : Ext H G H' G') : ∀ {k : List NestedKey} {v : List V}, KeysAt K H k v → KeysAt K H' k v
  | [], _, h => by rw [KeysAt] at h ⊢; exact h
  | k :: ks, _, h => by
    rw [KeysAt] at h ⊢
    obtain ⟨v, r, e, q, t⟩ := h
    exact ⟨v, r, e, zii.ext hr x q, KeysAt.ext hr x t⟩
end
theorem DnAt.ext (hr : HR K H G) (x : Ext H G H' G') {a : Addr} {ks : List NestedKey} {vs : List V} (h : DnAt K H a ks vs) (e : H' a = H a) : DnAt K H' a ks vs := by
  obtain ⟨xs, es, ep, h1, h2, h3, h4, h5, h6, h7, h8⟩ := h
  exact ⟨xs, es, ep, e.trans h1, h2, h3, h4, h5, h6, fun y hy => ⟨(h7 y hy).1.ext hr x, (h7 y hy).2⟩, h8⟩
theorem DnE.ext (hr : HR K H G) (x : Ext H G H' G') {a : Addr} {es : Array DictEntry} {ep : Nat} {ks : List NestedKey} {vs : List V} (h : DnE K H a es ep ks vs) (e : H' a = H a) : DnE K H' a es ep ks vs := by
  obtain ⟨xs, h1, h2, h3, h4, h5, h6, h7, h8⟩ := h
  exact ⟨xs, e.trans h1, h2, h3, h4, h5, h6, fun y hy => ⟨(h7 y hy).1.ext hr x, (h7 y hy).2⟩, h8⟩
theorem DnE.at {a : Addr} {es : Array DictEntry} {ep : Nat} {ks : List NestedKey} {vs : List V} (h : DnE K H a es ep ks vs) : DnAt K H a ks vs := by
  obtain ⟨xs, h⟩ := h
  exact ⟨xs, es, ep, h⟩
theorem DnAt.e {a : Addr} {ks : List NestedKey} {vs : List V} (h : DnAt K H a ks vs) : ∃ es ep, DnE K H a es ep ks vs := by
  obtain ⟨xs, es, ep, h⟩ := h
  exact ⟨es, ep, xs, h⟩
theorem Held.ext (hr : HR K H G) (x : Ext H G H' G') {k : Kd} {a : Addr} {vs : List V} (h : Held K H G k a vs) : Held K H' G' k a vs := by
  cases k with
  | tup =>
    rcases h with (h | ⟨o, h⟩) | h
    · exact .inl (.inl (x.ex _ _ h (hr.tup (.inl h))).1)
    · exact .inl (.inr ⟨o, (x.ex _ _ h (hr.frz h)).1⟩)
    · exact .inr h
  | lst =>
    obtain ⟨n, r⟩ := h
    obtain ⟨r', n'⟩ := x.ex _ _ r n
    exact ⟨n', r'⟩
  | scr =>
    rcases h with ⟨o, h⟩ | h
    · exact .inl ⟨o, (x.ex _ _ h (hr.frz h)).1⟩
    · exact .inr h
  | ins C fs =>
    obtain ⟨n, l, dx, r⟩ := h
    obtain ⟨r', n'⟩ := x.ex _ _ r n
    exact ⟨n', l, dx, r'⟩
  | dK ks =>
    obtain ⟨l, o, r⟩ := h
    exact ⟨l, o, (x.ex _ _ r (hr.frz r)).1⟩
  | dN ks =>
    obtain ⟨n, r⟩ := h
    obtain ⟨xs, es, ep, h1, _⟩ := id r
    obtain ⟨e, n'⟩ := x.ex _ _ h1 n
    exact ⟨n', r.ext hr x (e.trans h1.symm)⟩
mutual
theorem VR.ext (hr : HR K H G) (x : Ext H G H' G') : ∀ {d : D} {v : V}, VR K H G d v → VR K H' G' d v
  | .non, _, h => by rw [VR] at h ⊢; exact h
  | .bl _, _, h => by rw [VR] at h ⊢; exact h
  | .int _, _, h => by rw [VR] at h ⊢; exact h
  | .str _, _, h => by rw [VR] at h ⊢; exact h
  | .ty _, _, h => by rw [VR] at h ⊢; exact h
  | .ref _, _, h => by rw [VR] at h ⊢; exact h
  | .nd k ds, _, h => by
    rw [VR] at h ⊢
    obtain ⟨a, vs, e, q, r⟩ := h
    exact ⟨a, vs, e, q.ext hr x, VRs.ext hr x r⟩
theorem VRs.ext (hr : HR K H G) (x : Ext H G H' G') : ∀ {ds : List D} {vs : List V}, VRs K H G ds vs → VRs K H' G' ds vs
  | [], _, h => by rw [VRs] at h ⊢; exact h
  | d :: ds, _, h => by
    rw [VRs] at h ⊢
    obtain ⟨v, r, e, q, t⟩ := h
    exact ⟨v, r, e, VR.ext hr x q, VRs.ext hr x t⟩
end
theorem VRs.nil : VRs K H G [] [] := by rw [VRs]
theorem VRs.cons {d : D} {ds : List D} {v : V} {vs : List V} (h : VR K H G d v) (t : VRs K H G ds vs) : VRs K H G (d :: ds) (v :: vs) := by
  rw [VRs]; exact ⟨v, vs, rfl, h, t⟩
theorem VRs.uncons {d : D} {ds : List D} {vs : List V} (h : VRs K H G (d :: ds) vs) : ∃ v r, vs = v :: r ∧ VR K H G d v ∧ VRs K H G ds r := by
  rw [VRs] at h; exact h
theorem VRs.nil_of {vs : List V} (h : VRs K H G [] vs) : vs = [] := by rw [VRs] at h; exact h
theorem VRs.length : ∀ {ds : List D} {vs : List V}, VRs K H G ds vs → vs.length = ds.length
  | [], _, h => by rw [h.nil_of]; rfl
  | d :: ds, _, h => by
    obtain ⟨v, r, rfl, _, t⟩ := h.uncons
    rw [List.length_cons, List.length_cons, VRs.length t]
theorem VRs.append : ∀ {ds es : List D} {vs ws : List V}, VRs K H G ds vs → VRs K H G es ws → VRs K H G (ds ++ es) (vs ++ ws)
  | [], _, _, _, h, q => by rw [h.nil_of]; exact q
  | d :: ds, _, _, _, h, q => by
    obtain ⟨v, r, rfl, x, t⟩ := h.uncons
    exact .cons x (VRs.append t q)
theorem VRs.get : ∀ {ds : List D} {vs : List V} {i : Nat} {d : D}, VRs K H G ds vs → ds[i]? = some d → ∃ v, vs[i]? = some v ∧ VR K H G d v
  | [], _, _, _, _, e => by simp at e
  | d :: ds, _, 0, _, h, e => by
    obtain ⟨v, r, rfl, x, t⟩ := h.uncons
    simp at e; subst e
    exact ⟨v, rfl, x⟩
  | d :: ds, _, i + 1, _, h, e => by
    obtain ⟨v, r, rfl, x, t⟩ := h.uncons
    obtain ⟨u, e1, q⟩ := VRs.get (i := i) t (by simpa using e)
    exact ⟨u, by simpa using e1, q⟩
theorem VRs.take : ∀ {ds : List D} {vs : List V} (n : Nat), VRs K H G ds vs → VRs K H G (ds.take n) (vs.take n)
  | _, _, 0, _ => by rw [List.take_zero, List.take_zero]; exact .nil
  | [], _, n + 1, h => by rw [h.nil_of]; exact .nil
  | d :: ds, _, n + 1, h => by
    obtain ⟨v, r, rfl, x, t⟩ := h.uncons
    exact .cons x (VRs.take n t)
theorem VRs.drop : ∀ {ds : List D} {vs : List V} (n : Nat), VRs K H G ds vs → VRs K H G (ds.drop n) (vs.drop n)
  | _, _, 0, h => by rw [List.drop_zero, List.drop_zero]; exact h
  | [], _, n + 1, h => by rw [h.nil_of]; exact .nil
  | d :: ds, _, n + 1, h => by
    obtain ⟨v, r, rfl, x, t⟩ := h.uncons
    exact VRs.drop n t
theorem VRs.set : ∀ {ds : List D} {vs : List V} {d : D} {v : V} (i : Nat), VRs K H G ds vs → VR K H G d v → VRs K H G (ds.set i d) (vs.set i v)
  | [], _, _, _, i, h, _ => by rw [h.nil_of]; exact .nil
  | d :: ds, _, _, _, 0, h, q => by
    obtain ⟨v, r, rfl, x, t⟩ := h.uncons
    exact .cons q t
  | d :: ds, _, _, _, i + 1, h, q => by
    obtain ⟨v, r, rfl, x, t⟩ := h.uncons
    exact .cons x (VRs.set i t q)
theorem VRs.eraseIdx : ∀ {ds : List D} {vs : List V} (i : Nat), VRs K H G ds vs → VRs K H G (ds.eraseIdx i) (vs.eraseIdx i)
  | [], _, i, h => by rw [h.nil_of]; exact .nil
  | d :: ds, _, 0, h => by
    obtain ⟨v, r, rfl, x, t⟩ := h.uncons
    exact t
  | d :: ds, _, i + 1, h => by
    obtain ⟨v, r, rfl, x, t⟩ := h.uncons
    exact .cons x (VRs.eraseIdx i t)
theorem VRs.reverse : ∀ {ds : List D} {vs : List V}, VRs K H G ds vs → VRs K H G ds.reverse vs.reverse
  | [], _, h => by rw [h.nil_of]; exact .nil
  | d :: ds, _, h => by
    obtain ⟨v, r, rfl, x, t⟩ := h.uncons
    rw [List.reverse_cons, List.reverse_cons]
    exact (VRs.reverse t).append (.cons x .nil)
/-- ints, texts, bools: what they stand for -/
theorem VRs.of_map {α : Type} (f : α → D) (g : α → V) (h : ∀ a, VR K H G (f a) (g a)) : ∀ xs : List α, VRs K H G (xs.map f) (xs.map g)
  | [] => .nil
  | x :: xs => .cons (h x) (VRs.of_map f g h xs)
theorem VRs.map_eq {α : Type} (f : α → D) (g : α → V) (h : ∀ a v, VR K H G (f a) v → v = g a) : ∀ {xs : List α} {vs : List V}, VRs K H G (xs.map f) vs → vs = xs.map g
  | [], _, q => q.nil_of
  | x :: xs, _, q => by
    obtain ⟨v, r, rfl, a, t⟩ := VRs.uncons q
    rw [List.map_cons, h x v a, VRs.map_eq f g h t]
theorem VRs.ints {ns : List Int} {vs : List V} (h : VRs K H G (ns.map D.int) vs) : vs = ns.map V.int :=
  h.map_eq _ _ fun a v q => by rw [VR] at q; exact q
theorem VRs.of_ints (ns : List Int) : VRs K H G (ns.map D.int) (ns.map V.int) := VRs.of_map _ _ (fun a => by rw [VR]) ns
/-- a new object that is not tracked -/
theorem Ext.laid {p : Addr} {o : HO} (hp : H p = none) : Ext H G (upd H p o) G :=
  ⟨fun a u h n => ⟨by rw [upd_ne (ne_of_none h hp)]; exact h, n⟩⟩
theorem OR.ext (hr : HR K H G) (x : Ext H G H' G') {a : Addr} {o : DO} (e : H' a = H a) (h : OR K H G a o) : OR K H' G' a o := by
  cases o with
  | lst ds => obtain ⟨vs, q, r⟩ := h; exact ⟨vs, e.trans q, r.ext hr x⟩
  | dK ds => obtain ⟨vs, q, z, r⟩ := h; exact ⟨vs, e.trans q, z, r.ext hr x⟩
  | dN ds => obtain ⟨vs, q, r⟩ := h; exact ⟨vs, q.ext hr x e, r.ext hr x⟩
  | ins C fs => obtain ⟨dx, vs, q, z, r⟩ := h; exact ⟨dx, vs, e.trans q, z, r.ext hr x⟩
  | rw es ep kvs => obtain ⟨vs, q, r⟩ := h; exact ⟨vs, q.ext hr x e, r.ext hr x⟩
theorem HR.laid (hr : HR K H G) {p : Addr} {o : HO} (hp : H p = none) : HR K (upd H p o) G := fun a u e => by
  have h := hr a u e
  obtain ⟨z, hz⟩ := h.some
  exact h.ext hr (.laid hp) (upd_ne (ne_of_none hz hp))
/-- a new tracked object -/
theorem Ext.new {p : Addr} {o : HO} {u : DO} (hp : H p = none) : Ext H G (upd H p o) (up G p u) :=
  ⟨fun a v h n => ⟨by rw [upd_ne (ne_of_none h hp)]; exact h, by rw [zq8 (ne_of_none h hp)]; exact n⟩⟩
theorem HR.new (hr : HR K H G) {p : Addr} {o : HO} {u : DO} (hp : H p = none) (h : OR K (upd H p o) (up G p u) p u) : HR K (upd H p o) (up G p u) := fun a w e => by
  by_cases q : a = p
  · subst q; rw [zo] at e; cases e; exact h
  · rw [zq8 q] at e
    exact (hr a w e).ext hr (.new hp) (upd_ne q)
/-- a tracked object changes -/
theorem Ext.write {p : Addr} {o : HO} {u w : DO} (hp : G p = some w) : Ext H G (upd H p o) (up G p u) :=
  ⟨fun a v h n => by
    have e : a ≠ p := fun e => by rw [e, hp] at n; cases n
    exact ⟨by rw [upd_ne e]; exact h, by rw [zq8 e]; exact n⟩⟩
theorem HR.write (hr : HR K H G) {p : Addr} {o : HO} {u w : DO} (hp : G p = some w) (h : OR K (upd H p o) (up G p u) p u) : HR K (upd H p o) (up G p u) := fun a z e => by
  by_cases q : a = p
  · subst q; rw [zo] at e; cases e; exact h
  · rw [zq8 q] at e
    exact (hr a z e).ext hr (.write hp) (upd_ne q)
/-- tracked no more: from now on it is read alone -/
theorem Ext.freeze {p : Addr} : Ext H G H (dl G p) :=
  ⟨fun a v h n => ⟨h, by
    by_cases e : a = p
    · rw [e, znx]
    · rw [z5e e]; exact n⟩⟩
theorem HR.freeze (hr : HR K H G) (p : Addr) : HR K H (dl G p) := fun a z e => by
  by_cases q : a = p
  · subst q; rw [znx] at e; cases e
  · rw [z5e q] at e
    exact (hr a z e).ext hr .freeze rfl
/-- .. a dict: locked -/
theorem Ext.freezeD {p : Addr} {o : HO} {w : DO} (hp : G p = some w) : Ext H G (upd H p o) (dl G p) :=
  ⟨fun a v h n => by
    have e : a ≠ p := fun e => by rw [e, hp] at n; cases n
    exact ⟨by rw [upd_ne e]; exact h, by rw [z5e e]; exact n⟩⟩
theorem HR.freezeD (hr : HR K H G) {p : Addr} {o : HO} {w : DO} (hp : G p = some w) : HR K (upd H p o) (dl G p) := fun a z e => by
  by_cases q : a = p
  · subst q; rw [znx] at e; cases e
  · rw [z5e q] at e
    exact (hr a z e).ext hr (.freezeD hp) (upd_ne q)
/-- the tree of an object that is tracked no more -/
def DO.tree : DO → D
  | .lst ds => .lst ds
  | .dK kvs => .nd (.dK (kvs.map (·.1))) (kvs.map (·.2))
  | .dN kvs => .nd (.dN (kvs.map (·.1))) (kvs.map (·.2))
  | .ins C fs => .nd (.ins C (fs.map (·.1))) (fs.map (·.2))
  | .rw _ _ kvs => .nd (.dN (kvs.map (·.1))) (kvs.map (·.2))
theorem zrr {α β : Type} : ∀ l : List (α × β), (l.map (·.1)).zip (l.map (·.2)) = l
  | [] => rfl
  | (a, b) :: l => by simp [zrr l]
/-- what stands at p behind the freezing: a dict is locked -/
def Fz (H H' : Hp) (p : Addr) : DO → Prop
  | .dK _ => ∃ u od, H p = some u ∧ Mut (some u) ∧ H' = upd H p (.frz od u)
  | _ => H' = H
theorem HR.tree (hr : HR K H G) {p : Addr} {o : DO} (h : G p = some o) (f : Fz H H' p o) : VR K H' (dl G p) o.tree (.ref p) ∧ Ext H G H' (dl G p) ∧ HR K H' (dl G p) := by
  have q := hr p o h
  cases o with
  | lst ds =>
    obtain rfl : H' = H := f
    obtain ⟨vs, e, r⟩ := q
    refine ⟨?_, .freeze, hr.freeze p⟩
    show VR K H' (dl G p) (.nd .lst ds) _
    rw [VR]
    exact ⟨p, vs, rfl, ⟨znx, e⟩, r.ext hr .freeze⟩
  | dK kvs =>
    obtain ⟨ws, e, z, r⟩ := q
    obtain ⟨u, od, hu, _, rfl⟩ := f
    rw [e] at hu; cases hu
    refine ⟨?_, .freezeD h, hr.freezeD h⟩
    show VR K _ (dl G p) (.nd (.dK _) _) _
    rw [VR]
    refine ⟨p, _, rfl, ⟨by rw [← z]; simp, od, ?_⟩, r.ext hr (.freezeD h)⟩
    rw [← z, zrr, upd_same]
  | dN kvs =>
    obtain rfl : H' = H := f
    obtain ⟨ws, e, r⟩ := q
    refine ⟨?_, .freeze, hr.freeze p⟩
    show VR K H' (dl G p) (.nd (.dN _) _) _
    rw [VR]
    exact ⟨p, ws, rfl, ⟨znx, e⟩, r.ext hr .freeze⟩
  | ins C fs =>
    obtain rfl : H' = H := f
    obtain ⟨dx, ws, e, z, r⟩ := q
    refine ⟨?_, .freeze, hr.freeze p⟩
    show VR K H' (dl G p) (.nd (.ins C _) _) _
    rw [VR]
    refine ⟨p, _, rfl, ⟨znx, by rw [← z]; simp, dx, ?_⟩, r.ext hr .freeze⟩
    rw [← z, zrr]; exact e
  | rw es ep kvs =>
    obtain rfl : H' = H := f
    obtain ⟨ws, e, r⟩ := q
    refine ⟨?_, .freeze, hr.freeze p⟩
    show VR K H' (dl G p) (.nd (.dN _) _) _
    rw [VR]
    exact ⟨p, ws, rfl, ⟨znx, e.at⟩, r.ext hr .freeze⟩
end
abbrev DSt := List (Option D)
/-- where one set out: the objects then -/
class Bs where
  H0 : Hp
  G0 : DHp
structure SR [Bs] (K : Ml) (H : Hp) (G : DHp) (σ : L2.St) (η : DSt) : Prop where
  len : η.length = σ.length
  get : ∀ (i : Nat) (d : D), η[i]? = some (some d) → ∃ v, σ[i]? = some (some v) ∧ VR K H G d v
  base : Ext Bs.H0 Bs.G0 H G
section
variable {K : Ml} {H H' : Hp} {G G' : DHp} {σ : L2.St} {η η' : DSt}
theorem SR.ext [Bs] (hr : HR K H G) (x : Ext H G H' G') (h : SR K H G σ η) : SR K H' G' σ η :=
  ⟨h.len, fun i d e => let ⟨v, q, r⟩ := h.get i d e; ⟨v, q, r.ext hr x⟩, h.base.trans x⟩
theorem SR.set [Bs] (h : SR K H G σ η) {d : D} {v : V} (i : Nat) (r : VR K H G d v) : SR K H G (σ.set i (some v)) (η.set i (some d)) := by
  refine ⟨by rw [List.length_set, List.length_set, h.len], fun j e q => ?_, h.base⟩
  by_cases hj : i = j
  · subst hj
    by_cases hl : i < η.length
    · rw [List.getElem?_set_self hl] at q
      cases q
      exact ⟨v, by rw [List.getElem?_set_self (by rw [← h.len]; exact hl)], r⟩
    · rw [List.getElem?_eq_none (by rw [List.length_set]; omega)] at q; cases q
  · rw [List.getElem?_set_ne hj] at q
    obtain ⟨u, a, b⟩ := h.get j e q
    exact ⟨u, by rw [List.getElem?_set_ne hj]; exact a, b⟩
/-- less is known -/
def Le (η η' : DSt) : Prop := η.length = η'.length ∧ ∀ (i : Nat) (d : D), η[i]? = some (some d) → η'[i]? = some (some d)
theorem Le.refl (η : DSt) : Le η η := ⟨rfl, fun _ _ h => h⟩
theorem SR.le [Bs] (h : SR K H G σ η') (l : Le η η') : SR K H G σ η := ⟨l.1.trans h.len, fun i d e => h.get i d (l.2 i d e), h.base⟩
theorem SR.none [Bs] (h : SR K H G σ η) (i : Nat) (o : Option V) : SR K H G (σ.set i o) (η.set i Option.none) := by
  refine ⟨by rw [List.length_set, List.length_set, h.len], fun j e q => ?_, h.base⟩
  by_cases hj : i = j
  · subst hj
    by_cases hl : i < η.length
    · rw [List.getElem?_set_self hl] at q; cases q
    · rw [List.getElem?_eq_none (by rw [List.length_set]; omega)] at q; cases q
  · rw [List.getElem?_set_ne hj] at q
    obtain ⟨u, a, b⟩ := h.get j e q
    exact ⟨u, by rw [List.getElem?_set_ne hj]; exact a, b⟩
theorem Le.nil : Le [] [] := Le.refl _
theorem Le.keep {o : Option D} {η η' : DSt} (h : Le η η') : Le (o :: η) (o :: η') :=
  ⟨by rw [List.length_cons, List.length_cons, h.1], fun i d e => by
    cases i with
    | zero => simpa using e
    | succ i => simpa using h.2 i d (by simpa using e)⟩
theorem Le.drop {o : Option D} {η η' : DSt} (h : Le η η') : Le (none :: η) (o :: η') :=
  ⟨by rw [List.length_cons, List.length_cons, h.1], fun i d e => by
    cases i with
    | zero => simp at e
    | succ i => simpa using h.2 i d (by simpa using e)⟩
end
end DL
namespace DL
open PySem PySem.Spec PyProof.Rows L2
abbrev DVK := D → DHp → Prop
abbrev DTE := DSt → DHp → DVK → Prop
abbrev DTT := DSt → DHp → (Bool → DHp → Prop) → Prop
abbrev DTA := DSt → DHp → (List D → DHp → Prop) → Prop
structure zh5 where
  nx : DSt → DHp → Prop
  rt : DVK
  bk : DSt → DHp → Prop := fun _ _ => False
  ct : DSt → DHp → Prop := fun _ _ => False
abbrev DTS := zh5 → DSt → DHp → Prop
abbrev DTG := D → DSt → DHp → (DSt → DHp → Prop) → Prop
abbrev DTGs := List D → DSt → DHp → (DSt → DHp → Prop) → Prop
def zqx [Bs] (K : Ml) (T : DTE) : TE := fun σ H Q => ∃ η G P, SR K H G σ η ∧ HR K H G ∧ T η G P ∧ ∀ d G' v H', P d G' → Ext H G H' G' → HR K H' G' → VR K H' G' d v → Q v H'
def z20 [Bs] (K : Ml) (T : DTT) : TT := fun σ H Q => ∃ η G P, SR K H G σ η ∧ HR K H G ∧ T η G P ∧ ∀ b G' H', P b G' → Ext H G H' G' → HR K H' G' → Q b H'
def z89 [Bs] (K : Ml) (T : DTA) : TA := fun σ H Q => ∃ η G P, SR K H G σ η ∧ HR K H G ∧ T η G P ∧ ∀ ds G' vs H', P ds G' → Ext H G H' G' → HR K H' G' → VRs K H' G' ds vs → Q vs H'
structure zjm [Bs] (K : Ml) (H : Hp) (G : DHp) (F : zh5) (E : Ends) : Prop where
  nx : ∀ η G' σ H', F.nx η G' → Ext H G H' G' → SR K H' G' σ η → HR K H' G' → E.nx σ H'
  rt : ∀ d G' v H', F.rt d G' → Ext H G H' G' → HR K H' G' → VR K H' G' d v → E.rt v H'
  bk : ∀ η G' σ H', F.bk η G' → Ext H G H' G' → SR K H' G' σ η → HR K H' G' → E.bk σ H'
  ct : ∀ η G' σ H', F.ct η G' → Ext H G H' G' → SR K H' G' σ η → HR K H' G' → E.ct σ H'
theorem zjm.ext [Bs] {K H G H1 G1 F E} (h : zjm K H G F E) (x : Ext H G H1 G1) : zjm K H1 G1 F E :=
  ⟨fun η G' σ H' p y s r => h.nx η G' σ H' p (x.trans y) s r, fun d G' v H' p y r q => h.rt d G' v H' p (x.trans y) r q, fun η G' σ H' p y s r => h.bk η G' σ H' p (x.trans y) s r, fun η G' σ H' p y s r => h.ct η G' σ H' p (x.trans y) s r⟩
def z1a [Bs] (K : Ml) (T : DTS) : TS := fun E σ H => ∃ η G F, SR K H G σ η ∧ HR K H G ∧ T F η G ∧ zjm K H G F E
/-- is: the slots that a target may change -/
def z9u [Bs] (K : Ml) (is : List Nat) (T : DTG) : TG := fun v σ H Q => ∃ d η G P, VR K H G d v ∧ SR K H G σ η ∧ HR K H G ∧ T d η G P ∧ ∀ η' G' σ' H', P η' G' → Ext H G H' G' → SR K H' G' σ' η' → HR K H' G' → wipe σ' is = wipe σ is → Q σ' H'
def z84 [Bs] (K : Ml) (is : List Nat) (T : DTGs) : TGs := fun vs σ H Q => ∃ ds η G P, VRs K H G ds vs ∧ SR K H G σ η ∧ HR K H G ∧ T ds η G P ∧ ∀ η' G' σ' H', P η' G' → Ext H G H' G' → SR K H' G' σ' η' → HR K H' G' → wipe σ' is = wipe σ is → Q σ' H'
abbrev PED [Bs] (X : Cx) (e : Expr) (T : DTE) : Prop := PE X e (zqx X.ml T)
abbrev PTD [Bs] (X : Cx) (e : Expr) (T : DTT) : Prop := PT X e (z20 X.ml T)
abbrev PWD [Bs] (X : Cx) (e : Expr) (T : DTT) : Prop := PW X e (z20 X.ml T)
abbrev PAD [Bs] (X : Cx) (es : List Expr) (T : DTA) : Prop := PA X es (z89 X.ml T)
abbrev PSD [Bs] (X : Cx) (st : Stmt) (T : DTS) : Prop := PS X st (z1a X.ml T)
abbrev PSsD [Bs] (X : Cx) (st : List Stmt) (T : DTS) : Prop := PSs X st (z1a X.ml T)
abbrev PGD [Bs] (X : Cx) (e : Expr) (is : List Nat) (T : DTG) : Prop := PG X e (z9u X.ml is T)
abbrev PGsD [Bs] (X : Cx) (es : List Expr) (is : List Nat) (T : DTGs) : Prop := PGs X es (z84 X.ml is T)
section
variable {X : Cx}
theorem PE.impI {e : Expr} {t t' : TE} (h : PE X e t) (i : ∀ pins s σ H Q, Inv X pins σ H s → t' σ H Q → t σ H Q) : PE X e t' := ⟨fun pins s σ H Q I q => h.run pins s σ H Q I (i _ _ _ _ _ I q)⟩
theorem PT.impI {e : Expr} {t t' : TT} (h : PT X e t) (i : ∀ pins s σ H Q, Inv X pins σ H s → t' σ H Q → t σ H Q) : PT X e t' := ⟨fun pins s σ H Q I q => h.run pins s σ H Q I (i _ _ _ _ _ I q)⟩
theorem PW.impI {e : Expr} {t t' : TT} (h : PW X e t) (i : ∀ pins s σ H Q, Inv X pins σ H s → t' σ H Q → t σ H Q) : PW X e t' := ⟨fun w pins s σ H Q I q => h.run w pins s σ H Q I (i _ _ _ _ _ I q)⟩
theorem PA.impI {es : List Expr} {t t' : TA} (h : PA X es t) (i : ∀ pins s σ H Q, Inv X pins σ H s → t' σ H Q → t σ H Q) : PA X es t' := ⟨fun w pins s σ H Q I q => h.run w pins s σ H Q I (i _ _ _ _ _ I q)⟩
theorem PS.impI {e : Stmt} {t t' : TS} (h : PS X e t) (i : ∀ pins s σ H E, Inv X pins σ H s → t' E σ H → t E σ H) : PS X e t' := ⟨fun pins s σ H E I q => h.run pins s σ H E I (i _ _ _ _ _ I q)⟩
theorem PSs.impI {e : List Stmt} {t t' : TS} (h : PSs X e t) (i : ∀ pins s σ H E, Inv X pins σ H s → t' E σ H → t E σ H) : PSs X e t' := ⟨fun pins s σ H E I q => h.run pins s σ H E I (i _ _ _ _ _ I q)⟩
theorem PG.impI {e : Expr} {t t' : TG} (h : PG X e t) (i : ∀ pins s σ H v Q, Inv X pins σ H s → t' v σ H Q → t v σ H Q) : PG X e t' := ⟨fun pins s σ H v u Q I r q => h.run pins s σ H v u Q I r (i _ _ _ _ _ _ I q)⟩
theorem PGs.impI {e : List Expr} {t t' : TGs} (h : PGs X e t) (i : ∀ pins s σ H v Q, Inv X pins σ H s → t' v σ H Q → t v σ H Q) : PGs X e t' := ⟨fun pins s σ H v u Q I r q => h.run pins s σ H v u Q I r (i _ _ _ _ _ _ I q)⟩
def zf (i : Nat) : DTE := fun η G Q => match η[i]? with
  | some (some d) => Q d G
  | _ => False
theorem zb [Bs] (i : Nat) {x : Str} {pos : Pos} (hN : X.N[i]? = some x := by rfl) (hv : Vis X.env.scope x := by first | exact Or.inl rfl | exact Or.inr (Or.inl rfl) | exact Or.inr (Or.inr rfl)) (hd : (x == ("__debug__" : Str)) = false := by decide)
    (hcd : (x == ("__classdict__" : Str)) = false := by decide) : PED X (.Name x pos) (zf i) :=
  PE.impI (pe_var hN hv hd hcd) fun pins s σ H Q I ⟨η, G, P, hs, hr, t, k⟩ => by
    unfold zf at t
    split at t
    · rename_i d e
      obtain ⟨v, q, r⟩ := hs.2 i d e
      exact ⟨v, q, k d G v H t (.refl _ _) hr r⟩
    · exact t.elim
def dC (d : D) : DTE := fun _ G Q => Q d G
theorem zvt [Bs] {e : Expr} {d : D} {v : V} (h : PE X e (tC v)) (r : ∀ H G, VR X.ml H G d v) : PED X e (dC d) :=
  PE.impI h fun pins s σ H Q I ⟨η, G, P, hs, hr, t, k⟩ => k d G v H t (.refl _ _) hr (r H G)
theorem ze [Bs] {i : Int} {j pos} : PED X (.Constant (.int i) j pos) (dC (.int i)) := zvt pe_int fun _ _ => by rw [VR]
theorem znl [Bs] {i : Bool} {j pos} : PED X (.Constant (.bool i) j pos) (dC (.bl i)) := zvt pe_bl fun _ _ => by rw [VR]
theorem zab [Bs] {i : Str} {j pos} : PED X (.Constant (.str i) j pos) (dC (.str i)) := zvt pe_str fun _ _ => by rw [VR]
theorem zvw [Bs] {j pos} : PED X (.Constant .none j pos) (dC .non) := zvt pe_non fun _ _ => by rw [VR]
theorem zcu [Bs] {x : Str} {i : Int} {t : Tok} {pos : Pos} (hm : X.mg x = some (.int i t)) (hg : Gl X x := by rfl) (hd : (x == ("__debug__" : Str)) = false := by decide) : PED X (.Name x pos) (dC (.int i)) :=
  zvt (pe_glob (v := .int i) hg hm ⟨t, rfl⟩ hd) fun _ _ => by rw [VR]
theorem z4r [Bs] {x y : Str} {t : Tok} {pos : Pos} (hm : X.mg x = some (.str y t)) (hg : Gl X x := by rfl) (hd : (x == ("__debug__" : Str)) = false := by decide) : PED X (.Name x pos) (dC (.str y)) :=
  zvt (pe_glob (v := .str y) hg hm ⟨t, rfl⟩ hd) fun _ _ => by rw [VR]
theorem zv6 [Bs] {x : Str} {a : Addr} {pos : Pos} (hm : X.mg x = some (.ref a)) (hg : Gl X x := by rfl) (hd : (x == ("__debug__" : Str)) = false := by decide) : PED X (.Name x pos) (dC (.ref a)) :=
  zvt (pe_glob (v := .ref a) hg hm rfl hd) fun _ _ => by rw [VR]
/-- a written tuple of the module -/
def KTup (K : Ml) (a : Addr) (d : D) : Prop := ∀ H G, VR K H G d (.ref a)
theorem z5f [Bs] {x : Str} {a : Addr} {d : D} {pos : Pos} (hm : X.mg x = some (.ref a)) (hk : KTup X.ml a d) (hg : Gl X x := by rfl) (hd : (x == ("__debug__" : Str)) = false := by decide) : PED X (.Name x pos) (dC d) :=
  zvt (pe_glob (v := .ref a) hg hm rfl hd) hk
theorem zir [Bs] {x : Str} {n : String} {pos : Pos} (hm : X.mg x = none) (hv : bootBuiltins x = some (.type n)) (hg : Gl X x := by rfl) (hn : x ≠ "__name__" := by decide) (hd : (x == ("__debug__" : Str)) = false := by decide) : PED X (.Name x pos) (dC (.ty n)) :=
  zvt (pe_bltn (v := .ty n) hg hm hv rfl hn hd) fun _ _ => by rw [VR]
def dNil : DTA := fun _ G Q => Q [] G
def zd (T : DTE) (R : DTA) : DTA := fun η G Q => T η G fun d G1 => R η G1 fun ds G2 => Q (d :: ds) G2
theorem zc [Bs] : PAD X [] dNil := PA.impI pa_nil fun pins s σ H Q I ⟨η, G, P, hs, hr, t, k⟩ => k [] G [] H t (.refl _ _) hr .nil
theorem za [Bs] {e : Expr} {es : List Expr} {T : DTE} {R : DTA} (ha : PED X e T) (hb : PAD X es R) (hs : starEach (e :: es) X.env = (false, eval e X.env) :: starEach es X.env := by rfl) : PAD X (e :: es) (zd T R) :=
  PA.impI (pa_cons ha hb hs) fun pins s σ H Q I ⟨η, G, P, hs, hr, t, k⟩ =>
    ⟨η, G, _, hs, hr, t, fun d1 G1 v1 H1 p1 x1 r1 q1 => ⟨η, G1, _, hs.ext hr x1, r1, p1, fun ds G2 vs H2 p2 x2 r2 q2 => k (d1 :: ds) G2 (v1 :: vs) H2 p2 (x1.trans x2) r2 (.cons (q1.ext r1 x2) q2)⟩⟩
/-- a tuple -/
def dTup (T : DTA) : DTE := fun η G Q => T η G fun ds G1 => ds.length ≤ 1000 ∧ Q (.nd .tup ds) G1
theorem z3m {n : Nat} (h : n ≤ 1000) : n ≤ sizeLine := Nat.le_trans h (by decide)
theorem zk [Bs] {es : List Expr} {x1 : Nat} {pos : Pos} {T : DTA} (h : PAD X es T) : PED X (.Tuple es x1 pos) (dTup T) :=
  PE.impI (pe_tup h) fun pins s σ H Q I ⟨η, G, P, hs, hr, t, k⟩ =>
    ⟨η, G, _, hs, hr, t, fun ds G1 vs H1 ⟨pl, p1⟩ x1 r1 q1 => ⟨by rw [q1.length]; exact z3m pl, fun p hp => by
      have x2 : Ext H1 G1 (upd H1 p (.tup vs)) G1 := .laid hp
      refine k _ G1 (.ref p) _ p1 (x1.trans x2) (r1.laid hp) ?_
      rw [VR]
      exact ⟨p, vs, rfl, .inl (.inl upd_same), q1.ext r1 x2⟩⟩⟩
/-- a new list that is not changed later -/
def zha (T : DTA) : DTE := fun η G Q => T η G fun ds G1 => ds.length ≤ 1000 ∧ Q (.nd .lst ds) G1
theorem zd1 [Bs] {es : List Expr} {pos : Pos} {T : DTA} (h : PAD X es T) : PED X (.List es pos) (zha T) :=
  PE.impI (pe_lst h) fun pins s σ H Q I ⟨η, G, P, hs, hr, t, k⟩ =>
    ⟨η, G, _, hs, hr, t, fun ds G1 vs H1 ⟨pl, p1⟩ x1 r1 q1 => ⟨by rw [q1.length]; exact z3m pl, fun p hp => by
      have x2 : Ext H1 G1 (upd H1 p (.lst vs)) G1 := .laid hp
      refine k _ G1 (.ref p) _ p1 (x1.trans x2) (r1.laid hp) ?_
      rw [VR]
      exact ⟨p, vs, rfl, ⟨r1.free hp, upd_same⟩, q1.ext r1 x2⟩⟩⟩
/-- a new list that is changed later -/
def zk8 (T : DTA) : DTE := fun η G Q => T η G fun ds G1 => ds.length ≤ 1000 ∧ ∀ p, G1 p = none → Q (.ref p) (up G1 p (.lst ds))
theorem ziv [Bs] {es : List Expr} {pos : Pos} {T : DTA} (h : PAD X es T) : PED X (.List es pos) (zk8 T) :=
  PE.impI (pe_lst h) fun pins s σ H Q I ⟨η, G, P, hs, hr, t, k⟩ =>
    ⟨η, G, _, hs, hr, t, fun ds G1 vs H1 ⟨pl, p1⟩ x1 r1 q1 => ⟨by rw [q1.length]; exact z3m pl, fun p hp => by
      have x2 : Ext H1 G1 (upd H1 p (.lst vs)) (up G1 p (.lst ds)) := .new hp
      refine k _ _ (.ref p) _ (p1 p (r1.free hp)) (x1.trans x2) (r1.new hp ⟨vs, upd_same, q1.ext r1 x2⟩) ?_
      rw [VR]⟩⟩
abbrev DR2 := D → D → DHp → DVK → Prop
def zta (K : Ml) (r : DR2) : R2 := fun x y H Q => ∃ dx dy G P, HR K H G ∧ VR K H G dx x ∧ VR K H G dy y ∧ r dx dy G P ∧ ∀ d G' v H', P d G' → Ext H G H' G' → HR K H' G' → VR K H' G' d v → Q v H'
abbrev OpD (X : Cx) (f : Value → Value → Sem Value) (r : DR2) : Prop := OpR X f (zta X.ml r)
def dOp (r : DR2) (Ta Tb : DTE) : DTE := fun η G Q => Ta η G fun x G1 => Tb η G1 fun y G2 => r x y G2 Q
theorem zw5 [Bs] {r : DR2} {Ta Tb : DTE} {K : Ml} {σ : L2.St} {H : Hp} {Q : VK} (h : zqx K (dOp r Ta Tb) σ H Q) : tOp (zta K r) (zqx K Ta) (zqx K Tb) σ H Q :=
  let ⟨η, G, P, hs, hr, t, k⟩ := h
  ⟨η, G, _, hs, hr, t, fun d1 G1 v1 H1 p1 x1 r1 q1 => ⟨η, G1, _, hs.ext hr x1, r1, p1, fun d2 G2 v2 H2 p2 x2 r2 q2 =>
    ⟨d1, d2, G2, P, r2, q1.ext r1 x2, q2, p2, fun d G' v H' p x r q => k d G' v H' p ((x1.trans x2).trans x) r q⟩⟩⟩
theorem zu [Bs] {a b : Expr} {op : Operator} {pos : Pos} {r : DR2} {Ta Tb : DTE} (ho : OpD X (binaryOp op) r) (ha : PED X a Ta) (hb : PED X b Tb) : PED X (.BinOp a op b pos) (dOp r Ta Tb) :=
  PE.impI (pe_op ho ha hb) fun _ _ _ _ _ _ h => zw5 h
theorem zkh [Bs] {a b : Expr} {op : CmpOp} {pos : Pos} {r : DR2} {Ta Tb : DTE} (ho : OpD X (compareOp op) r) (ha : PED X a Ta) (hb : PED X b Tb) (hm : behindInMarks op b = false) : PED X (.Compare a [op] [b] pos) (dOp r Ta Tb) :=
  PE.impI (pe_cmpR ho ha hb hm) fun _ _ _ _ _ _ h => zw5 h
/-- a test by a truth value -/
def zan (T : DTE) : DTT := fun η G Q => T η G fun d G1 => match d with
  | .bl b => Q b G1
  | _ => False
theorem zxo [Bs] {T : DTE} {K : Ml} {σ : L2.St} {H : Hp} {Q : Bool → Hp → Prop} (h : z20 K (zan T) σ H Q) : tB (zqx K T) σ H Q := by
  obtain ⟨η, G, P, hs, hr, t, k⟩ := h
  refine ⟨η, G, _, hs, hr, t, fun d1 G1 v1 H1 p1 x1 r1 q1 => ?_⟩
  cases d1 with
  | bl b => rw [VR] at q1; exact ⟨b, q1, k b G1 H1 p1 x1 r1⟩
  | _ => exact p1.elim
theorem z6 [Bs] {a b : Expr} {op : CmpOp} {pos : Pos} {r : DR2} {Ta Tb : DTE} (ho : OpD X (compareOp op) r) (ha : PED X a Ta) (hb : PED X b Tb) (hm : behindInMarks op b = false) : PTD X (.Compare a [op] [b] pos) (zan (dOp r Ta Tb)) :=
  PT.impI (pt_cmpR ho ha hb hm) fun _ _ σ H Q _ h => by
    have h2 := zxo h
    obtain ⟨η, G, P, hs, hr, t, k⟩ := h2
    exact zw5 ⟨η, G, P, hs, hr, t, k⟩
theorem zc9 [Bs] {e : Expr} {T : DTE} (h : PED X e T) (he : ∀ whole, isTrue e X.env whole = (do let v ← whole; standAt e.pos; holding [v] (truthy v)) := by intro _; rfl) : PTD X e (zan T) :=
  PT.impI (pt_val h he) fun _ _ σ H Q _ h => zxo h
def dAnd (t u : DTT) : DTT := fun η G Q => t η G fun c G1 => if c = true then u η G1 Q else Q false G1
def dOr (t u : DTT) : DTT := fun η G Q => t η G fun c G1 => if c = true then Q true G1 else u η G1 Q
def dNot (t : DTT) : DTT := fun η G Q => t η G fun c G1 => Q (!c) G1
theorem zov [Bs] {e : Expr} {T : DTT} (h : PWD X e T) : PTD X e T := h.pt
theorem zv2 [Bs] {a : Expr} {T : DTT} {pos : Pos} (h : PTD X a T) : PWD X (.BoolOp .And [a] pos) T := pw_and1 h
theorem zjk [Bs] {a : Expr} {T : DTT} {pos : Pos} (h : PTD X a T) : PWD X (.BoolOp .Or [a] pos) T := pw_or1 h
theorem zz5 [Bs] {a b : Expr} {rest : List Expr} {t u : DTT} {pos : Pos} (ha : PTD X a t) (hb : PWD X (.BoolOp .And (b :: rest) pos) u) : PWD X (.BoolOp .And (a :: b :: rest) pos) (dAnd t u) :=
  PW.impI (pw_and ha hb) fun _ _ σ H Q _ ⟨η, G, P, hs, hr, t, k⟩ => ⟨η, G, _, hs, hr, t, fun c G1 H1 p1 x1 r1 => by
    by_cases hc : c = true
    · subst hc
      rw [if_pos rfl] at p1 ⊢
      exact ⟨η, G1, P, hs.ext hr x1, r1, p1, fun b G2 H2 p2 x2 r2 => k b G2 H2 p2 (x1.trans x2) r2⟩
    · rw [if_neg hc] at p1 ⊢
      exact k false G1 H1 p1 x1 r1⟩
theorem zik [Bs] {a b : Expr} {rest : List Expr} {t u : DTT} {pos : Pos} (ha : PTD X a t) (hb : PWD X (.BoolOp .Or (b :: rest) pos) u) : PWD X (.BoolOp .Or (a :: b :: rest) pos) (dOr t u) :=
  PW.impI (pw_or ha hb) fun _ _ σ H Q _ ⟨η, G, P, hs, hr, t, k⟩ => ⟨η, G, _, hs, hr, t, fun c G1 H1 p1 x1 r1 => by
    by_cases hc : c = true
    · subst hc
      rw [if_pos rfl] at p1 ⊢
      exact k true G1 H1 p1 x1 r1
    · rw [if_neg hc] at p1 ⊢
      exact ⟨η, G1, P, hs.ext hr x1, r1, p1, fun b G2 H2 p2 x2 r2 => k b G2 H2 p2 (x1.trans x2) r2⟩⟩
theorem ze4 [Bs] {a : Expr} {T : DTT} {pos : Pos} (h : PTD X a T) : PTD X (.UnaryOp .Not a pos) (dNot T) :=
  PT.impI (pt_not h) fun _ _ σ H Q _ ⟨η, G, P, hs, hr, t, k⟩ => ⟨η, G, _, hs, hr, t, fun c G1 H1 p1 x1 r1 => k (!c) G1 H1 p1 x1 r1⟩
/-- as values; all but the last are truth values -/
def zk1 (Ta Tb : DTE) : DTE := fun η G Q => Ta η G fun d G1 => match d with
  | .bl c => if c = true then Tb η G1 Q else Q (.bl false) G1
  | _ => False
def dOrV (Ta Tb : DTE) : DTE := fun η G Q => Ta η G fun d G1 => match d with
  | .bl c => if c = true then Q (.bl true) G1 else Tb η G1 Q
  | _ => False
def zn9 (Ta : DTE) : DTE := fun η G Q => Ta η G fun d G1 => match d with
  | .bl c => Q (.bl (!c)) G1
  | _ => False
theorem zp1 [Bs] {op : BoolOp} {a : Expr} {T : DTE} {pos : Pos} (h : PED X a T) : PED X (.BoolOp op [a] pos) T := pe_one h
theorem zlp [Bs] {a b : Expr} {rest : List Expr} {Ta Tb : DTE} {pos : Pos} (ha : PED X a Ta) (hb : PED X (.BoolOp .And (b :: rest) pos) Tb) : PED X (.BoolOp .And (a :: b :: rest) pos) (zk1 Ta Tb) :=
  PE.impI (pe_and ha hb) fun _ _ σ H Q _ ⟨η, G, P, hs, hr, t, k⟩ => ⟨η, G, _, hs, hr, t, fun d G1 v H1 p1 x1 r1 q1 => by
    cases d with
    | bl c =>
      rw [VR] at q1
      refine ⟨c, q1, ?_⟩
      by_cases hc : c = true
      · subst hc
        have p1 : Tb η G1 P := by simpa using p1
        rw [if_pos rfl]
        exact ⟨η, G1, P, hs.ext hr x1, r1, p1, fun d G2 v H2 p2 x2 r2 q => k d G2 v H2 p2 (x1.trans x2) r2 q⟩
      · have p1 : P (.bl false) G1 := by simpa [hc] using p1
        rw [if_neg hc]
        exact k _ G1 _ H1 p1 x1 r1 (by rw [VR])
    | _ => exact p1.elim⟩
theorem zwt [Bs] {a : Expr} {Ta : DTE} {pos : Pos} (ha : PED X a Ta) : PED X (.UnaryOp .Not a pos) (zn9 Ta) :=
  PE.impI (pe_not ha) fun _ _ σ H Q _ ⟨η, G, P, hs, hr, t, k⟩ => ⟨η, G, _, hs, hr, t, fun d G1 v H1 p1 x1 r1 q1 => by
    cases d with
    | bl c =>
      rw [VR] at q1
      exact ⟨c, q1, k _ G1 _ H1 p1 x1 r1 (by rw [VR])⟩
    | _ => exact p1.elim⟩
def dIf (t : DTT) (Ta Tb : DTE) : DTE := fun η G Q => t η G fun c G1 => if c = true then Ta η G1 Q else Tb η G1 Q
theorem zpj [Bs] {c a b : Expr} {t : DTT} {Ta Tb : DTE} {pos : Pos} (hc : PTD X c t) (ha : PED X a Ta) (hb : PED X b Tb) : PED X (.IfExp c a b pos) (dIf t Ta Tb) :=
  PE.impI (pe_ifExp hc ha hb) fun _ _ σ H Q _ ⟨η, G, P, hs, hr, t, k⟩ => ⟨η, G, _, hs, hr, t, fun c G1 H1 p1 x1 r1 => by
    by_cases hc : c = true
    · subst hc
      rw [if_pos rfl] at p1 ⊢
      exact ⟨η, G1, P, hs.ext hr x1, r1, p1, fun d G2 v H2 p2 x2 r2 q => k d G2 v H2 p2 (x1.trans x2) r2 q⟩
    · rw [if_neg hc] at p1 ⊢
      exact ⟨η, G1, P, hs.ext hr x1, r1, p1, fun d G2 v H2 p2 x2 r2 q => k d G2 v H2 p2 (x1.trans x2) r2 q⟩⟩
def zck : DTS := fun F η G => F.nx η G
def dSeq (t u : DTS) : DTS := fun F η G => t { F with nx := u F } η G
theorem z7 [Bs] : PSsD X [] zck := PSs.impI pss_nil fun _ _ σ H E _ ⟨η, G, F, hs, hr, t, k⟩ => k.nx η G σ H t (.refl _ _) hs hr
theorem zg [Bs] {st : Stmt} {rest : List Stmt} {t u : DTS} (h1 : PSD X st t) (h2 : PSsD X rest u) : PSsD X (st :: rest) (dSeq t u) :=
  PSs.impI (pss_cons h1 h2) fun _ _ σ H E _ ⟨η, G, F, hs, hr, t, k⟩ => ⟨η, G, _, hs, hr, t,
    ⟨fun η' G' σ' H' p x s r => ⟨η', G', F, s, r, p, k.ext x⟩, k.rt, k.bk, k.ct⟩⟩
theorem zh [Bs] {st : Stmt} {t : DTS} (h1 : PSD X st t) : PSsD X [st] t := pss_one h1
def znu : DTS := fun F η G => F.bk η G
def ztx : DTS := fun F η G => F.ct η G
def zib (T : DTE) : DTS := fun F η G => T η G fun _ G1 => F.nx η G1
theorem zfa [Bs] {e : Expr} {T : DTE} {pos : Pos} (he : PED X e T) (hs : swapsWith e none pos.line X.env = pure false := by rfl) : PSD X (.Expr e pos) (zib T) :=
  PS.impI (ps_expr he hs) fun _ _ σ H E _ ⟨η, G, F, hs, hr, t, k⟩ => ⟨η, G, _, hs, hr, t, fun d G1 v H1 p1 x1 r1 q1 => k.nx η G1 σ H1 p1 x1 (hs.ext hr x1) r1⟩
def dRet (T : DTE) : DTS := fun F η G => T η G F.rt
theorem zaf [Bs] {e : Expr} {T : DTE} {pos : Pos} (he : PED X e T) : PSD X (.Return (some e) pos) (dRet T) :=
  PS.impI (ps_ret he) fun _ _ σ H E _ ⟨η, G, F, hs, hr, t, k⟩ => ⟨η, G, _, hs, hr, t, fun d G1 v H1 p1 x1 r1 q1 => k.rt d G1 v H1 p1 x1 r1 q1⟩
theorem Inv.fz {pins : List (Addr × Obj)} {σ : L2.St} {H : Hp} {G : DHp} {s : Shared} {p : Addr} {o : DO} (I : Inv X pins σ H s) (hr : HR X.ml H G) (h : G p = some o) : ∃ H', Fz H H' p o ∧ Inv X pins σ H' s := by
  have q := hr p o h
  cases o with
  | lst ds => exact ⟨H, rfl, I⟩
  | ins C fs => exact ⟨H, rfl, I⟩
  | rw es ep kvs => exact ⟨H, rfl, I⟩
  | dK kvs =>
    obtain ⟨ws, e, _⟩ := q
    obtain ⟨od, I'⟩ := I.lock e trivial
    exact ⟨_, ⟨_, od, e, trivial, rfl⟩, I'⟩
  | dN kvs => exact ⟨H, rfl, I⟩
/-- what is made is changed no more -/
def dFz (T : DTE) : DTE := fun η G Q => T η G fun d G1 => match d with
  | .ref a => match G1 a with
    | some o => Q o.tree (dl G1 a)
    | none => False
  | d => Q d G1
theorem zb6 [Bs] {e : Expr} {T : DTE} (h : PED X e T) : PED X e (dFz T) := ⟨fun pins s σ H Q I ⟨η, G, P, hs, hr, t, k⟩ => by
  refine thn (h.run pins s σ H (fun v H1 => ∃ d G1, (match d with | .ref a => (match G1 a with | some o => P o.tree (dl G1 a) | none => False) | d => P d G1) ∧ Ext H G H1 G1 ∧ HR X.ml H1 G1 ∧ VR X.ml H1 G1 d v) I ⟨η, G, _, hs, hr, t, fun d G1 v H1 p x r q => ⟨d, G1, p, x, r, q⟩⟩) fun u s1 ⟨v, H1, I1, rv, d, G1, p, x, r, q⟩ => ?_
  cases d with
  | ref a =>
    rw [VR] at q
    subst q
    cases e : G1 a with
    | none =>
      have p : (match G1 a with | some o => P o.tree (dl G1 a) | none => False) := p
      rw [e] at p; exact p.elim
    | some o =>
      have p : (match G1 a with | some o => P o.tree (dl G1 a) | none => False) := p
      rw [e] at p
      obtain ⟨H2, f, I2⟩ := Inv.fz I1 r e
      obtain ⟨t1, t2, t3⟩ := r.tree e f
      exact ⟨_, H2, I2, rv, k _ _ _ _ p (x.trans t2) t3 t1⟩
  | _ => exact ⟨v, H1, I1, rv, k _ G1 v H1 p x r q⟩⟩
def zo9 (T : DTE) : DTS := dRet (dFz T)
theorem zvz [Bs] {e : Expr} {T : DTE} {pos : Pos} (he : PED X e T) : PSD X (.Return (some e) pos) (zo9 T) := zaf (zb6 he)
def zuq : DTS := fun F _ G => F.rt .non G
def dIfS (c : DTT) (t u : DTS) : DTS := fun F η G => c η G fun b G1 => if b = true then t F η G1 else u F η G1
theorem zbp [Bs] {c : Expr} {a b : List Stmt} {tc : DTT} {t u : DTS} {pos : Pos} (hc : PTD X c tc) (ha : PSsD X a t) (hb : PSsD X b u) : PSD X (.If c a b pos) (dIfS tc t u) :=
  PS.impI (ps_if hc ha hb) fun _ _ σ H E _ ⟨η, G, F, hs, hr, t, k⟩ => ⟨η, G, _, hs, hr, t, fun c G1 H1 p1 x1 r1 => by
    by_cases hc : c = true
    · subst hc
      rw [if_pos rfl] at p1 ⊢
      exact ⟨η, G1, F, hs.ext hr x1, r1, p1, k.ext x1⟩
    · rw [if_neg hc] at p1 ⊢
      exact ⟨η, G1, F, hs.ext hr x1, r1, p1, k.ext x1⟩⟩
def zcx : DTS := fun _ _ _ => False
theorem zbz [Bs] {st : Stmt} : PSD X st zcx := PS.impI ps_never fun _ _ σ H E _ ⟨η, G, F, hs, hr, t, k⟩ => t
def zn (i : Nat) : DTG := fun d η G Q => Q (η.set i (some d)) G
theorem z4y (σ : L2.St) (i : Nat) (o : Option V) : wipe (σ.set i o) [i] = wipe σ [i] := by
  unfold wipe wipe
  rw [List.set_set]
theorem zm [Bs] {i : Nat} {x : Str} {pos : Pos} (hN : X.N.Nodup) (hi : X.N[i]? = some x) (hx : Loc X.env.scope x) (hf : X.fn x = true ∨ X.env.scope.names.lookup x = some .local := by first | exact .inl rfl | exact .inr rfl | assumption) : PGD X (.Name x pos) [i] (zn i) :=
  PG.impI (pg_name hN hi hx hf) fun _ _ σ H v Q _ ⟨d, η, G, P, q, hs, hr, t, k⟩ => k _ G _ H t (.refl _ _) (hs.set i q) hr (z4y _ _ _)
def zgc : DTGs := fun ds η G Q => match ds with
  | [] => Q η G
  | _ => False
def zag (t : DTG) (u : DTGs) : DTGs := fun ds η G Q => match ds with
  | d :: r => t d η G fun η' G' => u r η' G' Q
  | [] => False
theorem zcv [Bs] : PGsD X [] [] zgc := PGs.impI pgs_nil fun _ _ σ H vs Q _ ⟨ds, η, G, P, q, hs, hr, t, k⟩ => by
  cases ds with
  | nil => exact ⟨q.nil_of, k η G σ H t (.refl _ _) hs hr rfl⟩
  | cons d ds => exact t.elim
theorem zvm (σ : L2.St) (js : List Nat) : ∀ is : List Nat, wipe σ (is ++ js) = wipe (wipe σ js) is
  | [] => rfl
  | i :: is => by
    show (wipe σ (is ++ js)).set i none = (wipe (wipe σ js) is).set i none
    rw [zvm σ js is]
theorem zus (σ : L2.St) (i : Nat) : ∀ js : List Nat, wipe (σ.set i none) js = (wipe σ js).set i none
  | [] => rfl
  | j :: js => by
    show (wipe (σ.set i none) js).set j none = ((wipe σ js).set j none).set i none
    rw [zus σ i js]
    by_cases h : i = j
    · subst h; rfl
    · rw [List.set_comm _ _ h]
theorem zrz (σ : L2.St) (js : List Nat) : ∀ is : List Nat, wipe (wipe σ js) is = wipe (wipe σ is) js
  | [] => rfl
  | i :: is => by
    show (wipe (wipe σ js) is).set i none = wipe ((wipe σ is).set i none) js
    rw [zrz σ js is, zus]
theorem z11 {a b c : L2.St} {is js : List Nat} (h1 : wipe b is = wipe a is) (h2 : wipe c js = wipe b js) : wipe c (is ++ js) = wipe a (is ++ js) := by
  rw [zvm, zvm, h2, zrz b, h1, zrz]
theorem zs [Bs] {e : Expr} {es : List Expr} {is js : List Nat} {t : DTG} {u : DTGs} (h1 : PGD X e is t) (h2 : PGsD X es js u)
    (hs : (assignEach (e :: es) X.env).map (·.2) = assign e X.env :: (assignEach es X.env).map (·.2) := by rfl) : PGsD X (e :: es) (is ++ js) (zag t u) :=
  PGs.impI (pgs_cons h1 h2 hs) fun _ _ σ H vs Q _ ⟨ds, η, G, P, q, hs, hr, t, k⟩ => by
    cases ds with
    | nil => exact t.elim
    | cons d ds =>
      obtain ⟨v, r, rfl, q1, q2⟩ := q.uncons
      exact ⟨v, r, rfl, d, η, G, _, q1, hs, hr, t, fun η1 G1 σ1 H1 p1 x1 s1 r1 w1 => ⟨ds, η1, G1, P, q2.ext hr x1, s1, r1, p1, fun η2 G2 σ2 H2 p2 x2 s2 r2 w2 => k η2 G2 σ2 H2 p2 (x1.trans x2) s2 r2 (z11 w1 w2)⟩⟩
def zf6 (t : DTGs) (n : Nat) : DTG := fun d η G Q => match d with
  | .nd .tup ds => ds.length = n ∧ t ds η G Q
  | _ => False
theorem zej [Bs] {es : List Expr} {is : List Nat} {k : Nat} {t : DTGs} {n : Nat} {pos : Pos} (hc : X.calm = true) (h : PGsD X es is t)
    (hn : (assignEach es X.env).length = n := by rfl) (hst : (assignEach es X.env).findIdx? (·.1) = none := by rfl) : PGD X (.Tuple es k pos) is (zf6 t n) :=
  PG.impI (pg_tup hc h hn hst) fun _ _ σ H v Q _ ⟨d, η, G, P, q, hs, hr, t, k⟩ => by
    cases d with
    | nd kd ds =>
      cases kd with
      | tup =>
        rw [VR] at q
        obtain ⟨a, vs, rfl, hh, q⟩ := q
        obtain ⟨hl, t⟩ := t
        exact ⟨a, vs, rfl, hh, q.length.trans hl, ds, η, G, P, q, hs, hr, t, k⟩
      | _ => exact t.elim
    | _ => exact t.elim
def dAsg (T : DTE) (g : DTG) : DTS := fun F η G => T η G fun d G1 => g d η G1 F.nx
theorem zm3 [Bs] {tg e : Expr} {T : DTE} {is : List Nat} {g : DTG} {pos : Pos} (he : PED X e T) (hg : PGD X tg is g) (hs : swapsWithSole [tg] e pos.line X.env = pure false := by rfl) (hw : swappedStores [tg] e X.env = pure none := by rfl)
    (h1 : (assignEach [tg] X.env).map (·.2) = [assign tg X.env] := by rfl) : PSD X (.Assign [tg] e pos) (dAsg T g) :=
  PS.impI (ps_asg he hg hs hw h1) fun _ _ σ H E _ ⟨η, G, F, hs, hr, t, k⟩ => ⟨η, G, _, hs, hr, t, fun d G1 v H1 p1 x1 r1 q1 =>
    ⟨d, η, G1, _, q1, hs.ext hr x1, r1, p1, fun η2 G2 σ2 H2 p2 x2 s2 r2 w2 => k.nx η2 G2 σ2 H2 p2 (x1.trans x2) s2 r2⟩⟩
theorem zb5 [Bs] {i : Nat} {x : Str} {e : Expr} {T : DTE} {pos pos' : Pos} (hN : X.N.Nodup) (hi : X.N[i]? = some x) (hx : Loc X.env.scope x) (he : PED X e T) (hs : swapsWith e (some (.Name x pos')) pos.line X.env = pure false := by rfl) (hf : X.fn x = true ∨ X.env.scope.names.lookup x = some .local := by first | exact .inl rfl | exact .inr rfl | assumption) :
    PSD X (.Assign [.Name x pos'] e pos) (dAsg T (zn i)) :=
  PS.impI (ps_set hN hi hx he hs hf) fun _ _ σ H E _ ⟨η, G, F, hs, hr, t, k⟩ => ⟨η, G, _, hs, hr, t, fun d G1 v H1 p1 x1 r1 q1 =>
    k.nx _ G1 _ H1 p1 x1 ((hs.ext hr x1).set i q1) r1⟩
/-- a, b = x, y -/
def dPar (i j : Nat) (T : DTA) : DTS := fun F η G => T η G fun ds G1 => match ds with
  | [d, e] => F.nx ((η.set i (some d)).set j (some e)) G1
  | _ => False
theorem zpp [Bs] {i j : Nat} {x y : Str} {a b : Expr} {T : DTA} {px py pt pos : Pos} {kt k2 pt2} (hc : X.calm = true) (hN : X.N.Nodup) (hi : X.N[i]? = some x) (hj : X.N[j]? = some y) (hij : i ≠ j)
    (hx : X.env.scope.names.lookup x = some .local) (hy : X.env.scope.names.lookup y = some .local) (ha : PAD X [a, b] T)
    (hw : swappedStores [.Tuple [.Name x px, .Name y py] kt pt] (.Tuple [a, b] k2 pt2) X.env = pure (some [x, y]))
    (hs : swapsWithSole [.Tuple [.Name x px, .Name y py] kt pt] (.Tuple [a, b] k2 pt2) pos.line X.env = pure false := by rfl) :
    PSD X (.Assign [.Tuple [.Name x px, .Name y py] kt pt] (.Tuple [a, b] k2 pt2) pos) (dPar i j T) :=
  PS.impI (ps_par hc hN hi hj hij hx hy ha hw hs) fun _ _ σ H E _ ⟨η, G, F, hs, hr, t, k⟩ => ⟨η, G, _, hs, hr, t, fun ds G1 vs H1 p1 x1 r1 q1 => by
    match ds, p1, q1 with
    | [d, e], p1, q1 =>
      obtain ⟨v, r, rfl, a1, q2⟩ := q1.uncons
      obtain ⟨w, r', rfl, a2, q3⟩ := q2.uncons
      rw [q3.nil_of]
      exact ⟨v, w, rfl, k.nx _ G1 _ H1 p1 x1 (((hs.ext hr x1).set i a1).set j a2) r1⟩
    | [], p1, _ => exact p1.elim
    | [_], p1, _ => exact p1.elim
    | _ :: _ :: _ :: _, p1, _ => exact p1.elim⟩
/-- the object in a slot is changed no more -/
def dFrz (i : Nat) (t : DTS) : DTS := fun F η G => match η[i]? with
  | some (some (.ref a)) => match G a with
    | some o => t F (η.set i (some o.tree)) (dl G a)
    | none => False
  | _ => False
theorem zfv [Bs] {sts : List Stmt} {t : DTS} (i : Nat) (h : PSsD X sts t) : PSsD X sts (dFrz i t) := ⟨fun pins s σ H E I ⟨η, G, F, hs, hr, t, k⟩ => by
    unfold dFrz at t
    split at t
    · rename_i a e
      split at t
      · rename_i o ho
        obtain ⟨v, q, r⟩ := hs.2 i _ e
        rw [VR] at r
        subst r
        obtain ⟨H2, f, I2⟩ := Inv.fz I hr ho
        obtain ⟨t1, t2, t3⟩ := hr.tree ho f
        have s2 : SR X.ml H2 (dl G a) σ (η.set i (some o.tree)) := by
          have z := (hs.ext hr t2).set i t1
          have e2 : σ.set i (some (V.ref a)) = σ := by
            refine List.ext_getElem? fun j => ?_
            by_cases hj : i = j
            · subst hj
              rw [List.getElem?_set_self (List.getElem?_eq_some_iff.mp q).1, q]
            · rw [List.getElem?_set_ne hj]
          rw [e2] at z; exact z
        exact h.run pins s σ H2 E I2 ⟨_, _, F, s2, t3, t, k.ext t2⟩
      · exact t.elim
    · exact t.elim⟩
end
end DL
namespace DL
open PySem PySem.Spec PyProof.Rows L2
abbrev DTI := DSt → DHp → (List D → (DHp → Prop) → DHp → Prop) → Prop
/-- the walk J gives the items ds, as long as ok holds -/
def ItD (K : Ml) (H1 : Hp) (G1 : DHp) (J : It) (ds : List D) (ok : DHp → Prop) : Prop :=
  ∀ i H G, Ext H1 G1 H G → HR K H G → ok G →
    (∀ d, ds[i]? = some d → J.go i H ∧ ∀ x H', J.yld i H x H' → Ext H G H' G ∧ HR K H' G ∧ VR K H' G d x) ∧ (ds.length ≤ i → J.stop i H)
def z8x [Bs] (K : Ml) (T : DTI) : TI := fun σ H R => ∃ η G P, SR K H G σ η ∧ HR K H G ∧ T η G P ∧
  ∀ ds ok G' J H', P ds ok G' → Ext H G H' G' → HR K H' G' → ItD K H' G' J ds ok → R J H'
abbrev PID [Bs] (X : Cx) (tg it : Expr) (T : DTI) : Prop := PI X tg it (z8x X.ml T)
def zcm : DHp → Prop := fun _ => True
section
variable {X : Cx} {tg : Expr}
theorem Itl.itD {K : Ml} {H1 : Hp} {G1 : DHp} {a : Addr} {ds : List D} {ok : DHp → Prop} (h : ∀ H G, Ext H1 G1 H G → HR K H G → ok G → ∃ vs, SqL K.K H a vs ∧ VRs K H G ds vs) : ItD K H1 G1 (Itl K.K a) ds ok := by
  intro i H G x r o
  obtain ⟨vs, q, v⟩ := h H G x r o
  refine ⟨fun d e => ?_, fun l => ⟨vs, q, by rw [v.length]; exact l⟩⟩
  obtain ⟨u, e2, q2⟩ := v.get e
  refine ⟨⟨vs, u, q, e2⟩, fun y H' ⟨e3, e4⟩ => ?_⟩
  subst e3
  have e5 := e4 vs q
  rw [e2] at e5; cases e5
  exact ⟨.refl _ _, r, q2⟩
theorem Itt.itD {K : Ml} {H1 : Hp} {G1 : DHp} {a : Addr} {ds : List D} {ok : DHp → Prop} (h : ∀ H G, Ext H1 G1 H G → HR K H G → ok G → ∃ vs, SqT K.K H a vs ∧ VRs K H G ds vs) : ItD K H1 G1 (Itt K.K a) ds ok := by
  intro i H G x r o
  obtain ⟨vs, q, v⟩ := h H G x r o
  refine ⟨fun d e => ?_, fun l => ⟨vs, q, by rw [v.length]; exact l⟩⟩
  obtain ⟨u, e2, q2⟩ := v.get e
  refine ⟨⟨vs, u, q, e2⟩, fun y H' ⟨e3, e4⟩ => ?_⟩
  subst e3
  have e5 := e4 vs q
  rw [e2] at e5; cases e5
  exact ⟨.refl _ _, r, q2⟩
/-- a list or a tuple -/
def zd4 (T : DTE) : DTI := fun η G R => T η G fun d G1 => match d with
  | .nd .tup ds => R ds zcm G1
  | .nd .lst ds => R ds zcm G1
  | .nd .scr ds => R ds zcm G1
  | .ref a => (match G1 a with
    | some (.lst ds) => R ds (fun G => G a = some (.lst ds)) G1
    | _ => False)
  | _ => False
theorem zdt {K : Ml} {H : Hp} {G : DHp} {k : Kd} {a : Addr} {vs : List V} (h : Held K H G k a vs) (hk : k = .lst ∨ k = .scr) : SqL K.K H a vs := by
  rcases hk with rfl | rfl
  · exact .inl (.inl h.2)
  · rcases h with ⟨o, h⟩ | h
    · exact .inl (.inr ⟨o, h⟩)
    · exact .inr h
theorem zea [Bs] {l : Expr} {T : DTE} (hl : PED X l T) : PID X tg l (zd4 T) := by
  refine ⟨fun pins s σ H R I ⟨η, G, P, hs, hr, t, k⟩ => ?_⟩
  refine thn (hl.run pins s σ H (fun v H1 => ∃ d G1, (match d with
    | .nd .tup ds => P ds zcm G1
    | .nd .lst ds => P ds zcm G1
    | .nd .scr ds => P ds zcm G1
    | .ref a => (match G1 a with
      | some (.lst ds) => P ds (fun G => G a = some (.lst ds)) G1
      | _ => False)
    | _ => False) ∧ Ext H G H1 G1 ∧ HR X.ml H1 G1 ∧ VR X.ml H1 G1 d v) I ⟨η, G, _, hs, hr, t, fun d G1 v H1 p x r q => ⟨d, G1, p, x, r, q⟩⟩) fun u s1 ⟨v, H1, I1, rv, d, G1, p, x, r, q⟩ => ?_
  have doL : ∀ (a : Addr) (ds : List D) (ok : DHp → Prop), v = .ref a → P ds ok G1 → ok G1 → (∀ H G, Ext H1 G1 H G → HR X.ml H G → ok G → ∃ vs, SqL X.K H a vs ∧ VRs X.ml H G ds vs) →
      wpAny (model X.prog X.w) X.A (pyIter u) (PIE X pins σ tg R) X.xe s1 := by
    intro a ds ok e p1 o1 hh
    subst e
    cases rv
    obtain ⟨vs, hq, _⟩ := hh H1 G1 (.refl _ _) r o1
    have hp : PI X tg (.Constant .none 0 ⟨0, 0, 0, 0⟩) (fun σ H R => R (Itl X.K a) H) → True := fun _ => trivial
    obtain ⟨its, rv2, p2, hz⟩ := I1.list hq
    refine wpAny_pyIter_list p2.isList ?_
    refine ⟨s1.heap.objs.size, [s1.heap.objs.size], _, _, H1, rfl, I1.kept (t' := s1.toks) fun b o e => Heap.get?_push_of_some _ e, turn_list a _, ⟨_, Heap.get?_push_size _ rfl, rfl, rfl⟩, fun b hb => ?_, k ds ok G1 _ H1 p1 x r (Itl.itD hh)⟩
    have e : b = s1.heap.objs.size := by simpa using hb
    subst e
    exact I1.fpOk (Nat.le_refl _) (I1.hok.fresh (Nat.le_refl _))
  cases d with
  | nd kd ds =>
    cases kd with
    | tup =>
      rw [VR] at q
      obtain ⟨a, vs, rfl, hq, vr⟩ := q
      cases rv
      obtain ⟨its, rv2, p2, hz⟩ := I1.tuple hq
      refine wpAny_pyIter_tuple (show s1.heap.IsTuple a its.toArray from p2) ?_
      refine ⟨s1.heap.objs.size, [s1.heap.objs.size], _, _, H1, rfl, I1.kept (t' := s1.toks) fun b o e => Heap.get?_push_of_some _ e, turn_tuple a _, ⟨_, Heap.get?_push_size _ rfl, rfl, rfl⟩, fun b hb => ?_,
        k ds zcm G1 _ H1 p x r (Itt.itD fun H' G' x' r' _ => ⟨vs, Held.ext (k := .tup) r x' hq, vr.ext r x'⟩)⟩
      have e : b = s1.heap.objs.size := by simpa using hb
      subst e
      exact I1.fpOk (Nat.le_refl _) (I1.hok.fresh (Nat.le_refl _))
    | lst =>
      rw [VR] at q
      obtain ⟨a, vs, e, hq, vr⟩ := q
      exact doL a ds zcm e p trivial fun H' G' x' r' _ => ⟨vs, zdt (hq.ext r x') (.inl rfl), vr.ext r x'⟩
    | scr =>
      rw [VR] at q
      obtain ⟨a, vs, e, hq, vr⟩ := q
      exact doL a ds zcm e p trivial fun H' G' x' r' _ => ⟨vs, zdt (hq.ext r x') (.inr rfl), vr.ext r x'⟩
    | _ => exact p.elim
  | ref a =>
    rw [VR] at q
    cases e : G1 a with
    | none =>
      have p : (match G1 a with | some (.lst ds) => P ds (fun G => G a = some (.lst ds)) G1 | _ => False) := p
      rw [e] at p; exact p.elim
    | some o =>
      have p : (match G1 a with | some (.lst ds) => P ds (fun G => G a = some (.lst ds)) G1 | _ => False) := p
      rw [e] at p
      cases o with
      | lst ds => exact doL a ds _ q p e fun H' G' x' r' o => let ⟨vs, z, w⟩ := r' a _ o; ⟨vs, .inl (.inl z), w⟩
      | _ => exact p.elim
  | _ => exact p.elim
/-- lo, lo + 1, .. below hi -/
def za5 (lo hi : Int) : List Int := (List.range (hi - lo).toNat).map fun (k : Nat) => lo + (k : Int)
theorem Itr.itD {K : Ml} {H1 : Hp} {G1 : DHp} {lo hi : Int} : ItD K H1 G1 (Itr lo (hi - lo).toNat) ((za5 lo hi).map D.int) zcm := by
  intro i H G x r o
  have hl : ((za5 lo hi).map D.int).length = (hi - lo).toNat := by simp [za5]
  refine ⟨fun d e => ?_, fun l => by rw [hl] at l; exact l⟩
  have hi' : i < (hi - lo).toNat := by rw [← hl]; exact (List.getElem?_eq_some_iff.mp e).1
  refine ⟨hi', fun y H' ⟨e3, e4⟩ => ?_⟩
  subst e3 e4
  refine ⟨.refl _ _, r, ?_⟩
  have : d = D.int (lo + (i : Int)) := by
    simp only [za5, List.map_map, List.getElem?_map, List.getElem?_range hi', Option.map_some, Function.comp, Option.some.injEq] at e
    exact e.symm
  subst this
  rw [VR]
def ze8 (T : DTA) : DTI := fun η G R => T η G fun ds G1 => match ds with
  | [.int j] => (-(2 ^ 62) ≤ j ∧ j < 2 ^ 62) ∧ R ((za5 0 j).map D.int) zcm G1
  | _ => False
theorem zhk [Bs] {a : Expr} {T : DTA} {p pos : Pos} (hm : X.mg "range" = none) (ha : PAD X [a] T) (hg : Gl X "range" := by rfl) (hs : starEach [a] X.env = [(false, eval a X.env)] := by rfl) : PID X tg (.Call (.Name "range" p) [a] [] pos) (ze8 T) := by
  refine ⟨fun pins s σ H R I ⟨η, G, P, hs', hr, t, k⟩ => (pi_range1 hg hm ha hs).run pins s σ H R I ⟨η, G, _, hs', hr, t, fun ds G1 vs H1 p x r q => ?_⟩⟩
  match ds, p, q with
  | [.int j], ⟨⟨h1, h2⟩, p⟩, q =>
    obtain ⟨v, w, rfl, q1, q2⟩ := q.uncons
    rw [VR] at q1; subst q1
    rw [q2.nil_of]
    refine ⟨j, rfl, h1, h2, ?_⟩
    have := k _ zcm G1 (Itr 0 (j - 0).toNat) H1 p x r Itr.itD
    simpa using this
def zcn (T : DTA) : DTI := fun η G R => T η G fun ds G1 => match ds with
  | [.int i, .int j] => (-(2 ^ 62) ≤ i ∧ i < 2 ^ 62 ∧ -(2 ^ 62) ≤ j ∧ j < 2 ^ 62) ∧ R ((za5 i j).map D.int) zcm G1
  | _ => False
theorem zey [Bs] {a b : Expr} {T : DTA} {p pos : Pos} (hm : X.mg "range" = none) (ha : PAD X [a, b] T) (hg : Gl X "range" := by rfl) (hs : starEach [a, b] X.env = [(false, eval a X.env), (false, eval b X.env)] := by rfl) (hs2 : starEach [b] X.env = [(false, eval b X.env)] := by rfl) :
    PID X tg (.Call (.Name "range" p) [a, b] [] pos) (zcn T) := by
  refine ⟨fun pins s σ H R I ⟨η, G, P, hs', hr, t, k⟩ => (pi_range2 hg hm ha hs hs2).run pins s σ H R I ⟨η, G, _, hs', hr, t, fun ds G1 vs H1 p x r q => ?_⟩⟩
  match ds, p, q with
  | [.int i, .int j], ⟨h1, p⟩, q =>
    obtain ⟨v, w, rfl, q1, q2⟩ := q.uncons
    rw [VR] at q1; subst q1
    obtain ⟨v, w, rfl, q1, q3⟩ := q2.uncons
    rw [VR] at q1; subst q1
    rw [q3.nil_of]
    exact ⟨i, j, rfl, h1, k _ zcm G1 (Itr i (j - i).toNat) H1 p x r Itr.itD⟩
/-- what is known may be less -/
def Wk (W : DSt → DHp → Prop) : DSt → DHp → Prop := fun η G => ∃ η0, Le η0 η ∧ W η0 G
def dFor (wi : DTI) (g : DTG) (tb : DTS) : DTS := fun F η G => wi η G fun ds ok G1 => ∃ W : Nat → DSt → DHp → Prop, W 0 η G1 ∧ (∀ i η G, W i η G → ok G) ∧
  (∀ i d η G, ds[i]? = some d → W i η G → g d η G fun η2 G2 => tb { F with nx := Wk (W (i + 1)), ct := Wk (W (i + 1)), bk := F.nx } η2 G2) ∧ ∀ η G, W ds.length η G → F.nx η G
theorem zc7 [Bs] {iter : Expr} {body : List Stmt} {wi : DTI} {is : List Nat} {g : DTG} {tb : DTS} {pos : Pos} (hp : PassesOwn (model X.prog X.w) X.A X.env X.xe) (hc : X.calm = true) (hi : PID X tg iter wi) (hg : PGD X tg is g) (hb : PSsD X body tb)
    (hs : ∀ x, foldedSetIterable iter X.env x = pure x := by intro _; rfl) : PSD X (.For tg iter body [] pos) (dFor wi g tb) :=
  PS.impI (ps_for hp hc hi hg hb hs) fun _ _ σ H E _ ⟨η, G, F, hs, hr, t, k⟩ => ⟨η, G, _, hs, hr, t, fun ds ok G1 J H1 p x r it => by
    obtain ⟨W, w0, wok, step, fin⟩ := p
    refine ⟨fun i m σ' H' => m = ds.length - i ∧ i ≤ ds.length ∧ ∃ η' G', W i η' G' ∧ Ext H1 G1 H' G' ∧ SR X.ml H' G' σ' η' ∧ HR X.ml H' G',
      ⟨ds.length, by simp, Nat.zero_le _, η, G1, w0, .refl _ _, hs.ext hr x, r⟩, ?_⟩
    rintro i m σ1 H2 ⟨rfl, hle, η1, G2, w1, x1, s1, r1⟩
    obtain ⟨a1, a2⟩ := it i H2 G2 x1 r1 (wok _ _ _ w1)
    by_cases hlt : i < ds.length
    · have e : ds[i]? = some ds[i] := by simp [hlt]
      obtain ⟨go, yl⟩ := a1 _ e
      refine .inr ⟨go, fun σ' H' => ∃ η' G', Wk (W (i + 1)) η' G' ∧ Ext H1 G1 H' G' ∧ SR X.ml H' G' σ' η' ∧ HR X.ml H' G', fun σ' H' ⟨η', G', ⟨η0, l, w⟩, x', s', r'⟩ => ⟨_, by omega, rfl, hlt, η0, G', w, x', s'.le l, r'⟩, fun y H3 hy => ?_⟩
      obtain ⟨x3, r3, v3⟩ := yl y H3 hy
      refine ⟨_, η1, G2, _, v3, s1.ext r1 x3, r3, step i _ η1 G2 e w1, fun η4 G4 σ4 H4 p4 x4 s4 r4 _ => ⟨η4, G4, _, s4, r4, p4, ?_⟩⟩
      have x5 : Ext H1 G1 H4 G4 := (x1.trans x3).trans x4
      exact ⟨fun η' G' σ' H' p y s r => ⟨η', G', p, x5.trans y, s, r⟩, fun d G' v H' p y r q => k.rt d G' v H' p ((x.trans x5).trans y) r q, fun η' G' σ' H' p y s r => k.nx η' G' σ' H' p ((x.trans x5).trans y) s r,
        fun η' G' σ' H' p y s r => ⟨η', G', p, x5.trans y, s, r⟩⟩
    · have e : i = ds.length := by omega
      subst e
      exact .inl ⟨a2 (Nat.le_refl _), k.nx η1 G2 σ1 H2 (fin _ _ w1) (x.trans x1) s1 r1⟩⟩
def z2q (c : DTT) (tb : DTS) : DTS := fun F η G => ∃ W : Nat → DSt → DHp → Prop, (∃ m, W m η G) ∧ ∀ m η G, W m η G →
  c η G fun b G1 => if b = true then tb { F with nx := fun η' G' => ∃ m', m' < m ∧ Wk (W m') η' G', ct := fun η' G' => ∃ m', m' < m ∧ Wk (W m') η' G', bk := F.nx } η G1 else F.nx η G1
theorem zxc [Bs] {c : Expr} {body : List Stmt} {tc : DTT} {tb : DTS} {pos : Pos} (hp : PassesOwn (model X.prog X.w) X.A X.env X.xe) (hc : PTD X c tc) (hb : PSsD X body tb) : PSD X (.While c body [] pos) (z2q tc tb) :=
  PS.impI (ps_while hp hc hb) fun _ _ σ H E _ ⟨η, G, F, hs, hr, t, k⟩ => by
    obtain ⟨W, ⟨m0, w0⟩, step⟩ := t
    refine ⟨fun m σ' H' => ∃ η' G', W m η' G' ∧ Ext H G H' G' ∧ SR X.ml H' G' σ' η' ∧ HR X.ml H' G', ⟨m0, η, G, w0, .refl _ _, hs, hr⟩, ?_⟩
    rintro m σ1 H1 ⟨η1, G1, w1, x1, s1, r1⟩
    refine ⟨η1, G1, _, s1, r1, step m η1 G1 w1, fun b G2 H2 p2 x2 r2 => ?_⟩
    cases b with
    | true =>
      rw [if_pos rfl] at p2 ⊢
      refine ⟨fun σ' H' => ∃ m', m' < m ∧ ∃ η' G', Wk (W m') η' G' ∧ Ext H G H' G' ∧ SR X.ml H' G' σ' η' ∧ HR X.ml H' G', fun σ' H' ⟨m', hm, η', G', ⟨η0, l, w⟩, x', s', r'⟩ => ⟨m', hm, η0, G', w, x', s'.le l, r'⟩, ?_⟩
      refine ⟨η1, G2, _, s1.ext r1 x2, r2, p2, ?_⟩
      have x3 := x1.trans x2
      exact ⟨fun η' G' σ' H' ⟨m', hm, p⟩ y s r => ⟨m', hm, η', G', p, x3.trans y, s, r⟩, fun d G' v H' p y r q => k.rt d G' v H' p (x3.trans y) r q, fun η' G' σ' H' p y s r => k.nx η' G' σ' H' p (x3.trans y) s r,
        fun η' G' σ' H' ⟨m', hm, p⟩ y s r => ⟨m', hm, η', G', p, x3.trans y, s, r⟩⟩
    | false =>
      rw [if_neg Bool.false_ne_true] at p2 ⊢
      exact k.nx η1 G2 σ1 H2 p2 (x1.trans x2) (s1.ext r1 x2) r2
end
def zkn (η : DSt) : List Nat → DSt
  | [] => η
  | v :: vs => (zkn η vs).set v none
section
variable {X : Cx} {tg : Expr}
theorem SR.wipe [Bs] {K : Ml} {H : Hp} {G : DHp} {σ : L2.St} {η : DSt} (h : SR K H G σ η) : ∀ vs : List Nat, SR K H G (wipe σ vs) (zkn η vs)
  | [] => h
  | v :: vs => SR.none (SR.wipe h vs) v Option.none
/-- a clause's tests -/
abbrev PTsD [Bs] (X : Cx) (ifs : List Expr) (T : DTT) : Prop := PTs X ifs (z20 X.ml T)
def dYes : DTT := fun _ G Q => Q true G
theorem zdj [Bs] : PTsD X [] dYes := ⟨fun pins s σ H Q I ⟨η, G, P, hs, hr, t, k⟩ => pts_nil.run pins s σ H Q I (k true G H t (.refl _ _) hr)⟩
theorem zrs [Bs] {c : Expr} {T : DTT} (h : PTD X c T) : PTsD X [c] T := pts_one h
/-- [elt for tg in iter if ..] -/
def dLc (wi : DTI) (g : DTG) (tt : DTT) (te : DTE) (own : List Nat) : DTE := fun η G Q => wi η G fun ds ok G1 => ∀ p, G1 p = none → ∃ W : Nat → List D → DHp → Prop, W 0 [] (up G1 p (.lst [])) ∧ (∀ i acc G, W i acc G → ok G ∧ G p = some (.lst acc)) ∧
  (∀ i d acc G, ds[i]? = some d → W i acc G → g d (zkn η own) G fun η2 G2 => tt η2 G2 fun b G3 => if b = true then te η2 G3 fun y G4 => acc.length < sizeLine ∧ G4 p = some (.lst acc) ∧ W (i + 1) (acc ++ [y]) (up G4 p (.lst (acc ++ [y]))) else W (i + 1) acc G3) ∧
  ∀ acc G, W ds.length acc G → Q (.ref p) G
theorem z48 {a b : L2.St} {is vs : List Nat} (h : wipe b is = wipe a is) (hl : ∀ i ∈ is, i ∈ vs) (ha : a.length = b.length) : wipe b vs = wipe a vs := by
  have get : ∀ (σ : L2.St) (vs : List Nat) (j : Nat), (wipe σ vs)[j]? = if j ∈ vs then (if j < σ.length then some none else none) else σ[j]? := by
    intro σ vs j
    induction vs with
    | nil => simp [wipe]
    | cons v vs ih =>
      unfold wipe
      by_cases hj : v = j
      · subst hj
        by_cases hlt : v < σ.length
        · rw [List.getElem?_set_self (by rw [wipe_length]; exact hlt)]
          simp [hlt]
        · rw [List.getElem?_eq_none (by rw [List.length_set, wipe_length]; omega)]
          simp [hlt]
      · rw [List.getElem?_set_ne hj, ih]
        have : j ≠ v := Ne.symm hj
        simp [this]
  refine List.ext_getElem? fun j => ?_
  rw [get, get]
  by_cases hj : j ∈ vs
  · simp [hj, ha]
  · have hi : j ∉ is := fun q => hj (hl j q)
    have e := congrArg (fun l => l[j]?) h
    simp only [get, hi, if_false] at e
    simp [hj, e]
theorem z3t (σ : L2.St) (own : List Nat) : wipe (wipe σ own) own = wipe σ own := by
  refine List.ext_getElem? fun j => ?_
  by_cases hj : j ∈ own
  · have h1 : ∀ (vs : List Nat) (s : L2.St), j ∈ vs → (wipe s vs)[j]? = if j < s.length then some none else none := by
      intro vs s hm
      induction vs with
      | nil => cases hm
      | cons v vs ih =>
        unfold wipe
        by_cases e : v = j
        · subst e
          by_cases hlt : v < s.length
          · rw [List.getElem?_set_self (by rw [wipe_length]; exact hlt), if_pos hlt]
          · rw [List.getElem?_eq_none (by rw [List.length_set, wipe_length]; omega), if_neg hlt]
        · rw [List.getElem?_set_ne e, ih ((List.mem_cons.mp hm).resolve_left fun q => e q.symm)]
    rw [h1 own _ hj, h1 own _ hj, wipe_length]
  · rw [wipe_out hj]
theorem z3s [Bs] {K : Ml} {wi : DTI} {g : DTG} {tt : DTT} {te : DTE} {own is : List Nat} {σ : L2.St} {H : Hp} {Q : VK} (hsub : ∀ i ∈ is, i ∈ own) (h : zqx K (dLc wi g tt te own) σ H Q) :
    tLc (z8x K wi) (z9u K is g) (z20 K tt) (zqx K te) own σ H Q := by
  obtain ⟨η, G, P, hs, hr, t, k⟩ := h
  refine ⟨η, G, _, hs, hr, t, fun ds ok G1 J H1 pp x r it => ?_⟩
  intro D hD
  have gD : G1 D = none := r.free hD
  obtain ⟨W, w0, wok, step, fin⟩ := pp D gD
  have xD : Ext H1 G1 (upd H1 D (.lst [])) (up G1 D (.lst [])) := .new hD
  have rD : HR K (upd H1 D (.lst [])) (up G1 D (.lst [])) := r.new hD ⟨[], upd_same, .nil⟩
  refine ⟨fun i m H' => m = ds.length - i ∧ i ≤ ds.length ∧ ∃ acc G', W i acc G' ∧ Ext H1 G1 H' G' ∧ HR K H' G',
    ⟨ds.length, by simp, Nat.zero_le _, [], _, w0, xD, rD⟩, ?_⟩
  rintro i m H2 ⟨rfl, hle, acc, G2, w1, x1, r1⟩
  obtain ⟨a1, a2⟩ := it i H2 G2 x1 r1 (wok _ _ _ w1).1
  by_cases hlt : i < ds.length
  · have e : ds[i]? = some ds[i] := by simp [hlt]
    obtain ⟨go, yl⟩ := a1 _ e
    refine .inr ⟨go, fun H' => ∃ acc G', W (i + 1) acc G' ∧ Ext H1 G1 H' G' ∧ HR K H' G', fun H' ⟨acc', G', z⟩ => ⟨_, by omega, rfl, hlt, acc', G', z⟩, fun y H3 hy => ?_⟩
    obtain ⟨x3, r3, v3⟩ := yl y H3 hy
    have s3 : SR K H3 G2 (wipe σ own) (zkn η own) := ((hs.ext hr x).ext r (x1.trans x3)).wipe own
    refine ⟨_, zkn η own, G2, _, v3, s3, r3, step i _ acc G2 e w1, fun η4 G4 σ4 H4 p4 x4 s4 r4 wp => ⟨?_, η4, G4, _, s4, r4, p4, fun b G5 H5 p5 x5 r5 => ?_⟩⟩
    · have hlen : (wipe σ own).length = σ4.length := by
        have := congrArg List.length wp
        rw [wipe_length, wipe_length] at this
        exact this.symm
      rw [z48 (vs := own) wp hsub hlen]
      exact z3t _ _
    · by_cases hb : b = true
      · subst hb
        rw [if_pos rfl] at p5 ⊢
        refine ⟨η4, G5, _, s4.ext r4 x5, r5, p5, fun dy G6 vy H6 ⟨hz, hp6, w6⟩ x6 r6 q6 => ?_⟩
        obtain ⟨vs, hv6, ha⟩ := r6 D _ hp6
        have xx : Ext H2 G2 H6 G6 := ((x3.trans x4).trans x5).trans x6
        have xw : Ext H6 G6 (upd H6 D (.lst (vs ++ [vy]))) (up G6 D (.lst (acc ++ [dy]))) := .write hp6
        refine ⟨vs, hv6, by rw [ha.length]; exact hz, acc ++ [dy], _, w6, (x1.trans xx).trans xw, r6.write hp6 ⟨_, upd_same, ?_⟩⟩
        exact (ha.ext r6 xw).append (.cons (q6.ext r6 xw) .nil)
      · rw [if_neg hb] at p5 ⊢
        exact ⟨acc, G5, p5, x1.trans ((x3.trans x4).trans x5), r5⟩
  · have e : i = ds.length := by omega
    subst e
    exact .inl ⟨a2 (Nat.le_refl _), k (.ref D) G2 (.ref D) H2 (fin _ _ w1) (x.trans x1) r1 (by rw [VR])⟩
theorem zhc [Bs] {elt tg iter : Expr} {ifs : List Expr} {scope : Scope} {own : List (Str × Nat)} {is : List Nat} {pos : Pos} {wi : DTI} {g : DTG} {tt : DTT} {te : DTE} (hc : X.calm = true) (hN : X.N.Nodup) (hi : PID X tg iter wi) (ok : BlkOk X.N X.env.scope scope own)
    (hg : ∀ (s : Shared) (H : Hp) (C : Addr) (cl : List (Str × Addr)) (fp : List Addr), PGD (X.blk s H scope (compEnvC scope cl C X.env) fp) tg is g) (ht : ∀ (s : Shared) (H : Hp) (C : Addr) (cl : List (Str × Addr)) (fp : List Addr), PTsD (X.blk s H scope (compEnvC scope cl C X.env) fp) ifs tt)
    (he : ∀ (s : Shared) (H : Hp) (C : Addr) (cl : List (Str × Addr)) (fp : List Addr), PED (X.blk s H scope (compEnvC scope cl C X.env) fp) elt te) (hsub : ∀ i ∈ is, i ∈ own.map (·.2) := by decide) (hs : ∀ x, foldedSetIterable iter X.env x = pure x := by intro _; rfl) :
    PED X (.ListComp elt [⟨tg, iter, ifs, 0⟩] scope pos) (dLc wi g tt te (own.map (·.2))) :=
  PE.impI (pe_lc hc hN hi ok hg ht he hs) fun _ _ _ _ _ _ h => z3s hsub h
/-- name = [..] on one line -/
theorem zsa [Bs] {i : Nat} {y : Str} {py : Pos} {elt tg iter : Expr} {ifs : List Expr} {scope : Scope} {own : List (Str × Nat)} {is : List Nat} {pos spos : Pos} {wi : DTI} {g : DTG} {tt : DTT} {te : DTE} (hc : X.calm = true) (hN : X.N.Nodup) (hy : X.N[i]? = some y) (hyl : X.env.scope.names.lookup y = some .local)
    (hsw : swapsWith (.ListComp elt [⟨tg, iter, ifs, 0⟩] scope pos) (some (.Name y py)) spos.line X.env = pure true) (hi : PID X tg iter wi) (ok : BlkOk X.N X.env.scope scope own)
    (hg : ∀ (s : Shared) (H : Hp) (C : Addr) (cl : List (Str × Addr)) (fp : List Addr), PGD (X.blk s H scope (compEnvC scope cl C X.env) fp) tg is g) (ht : ∀ (s : Shared) (H : Hp) (C : Addr) (cl : List (Str × Addr)) (fp : List Addr), PTsD (X.blk s H scope (compEnvC scope cl C X.env) fp) ifs tt)
    (he : ∀ (s : Shared) (H : Hp) (C : Addr) (cl : List (Str × Addr)) (fp : List Addr), PED (X.blk s H scope (compEnvC scope cl C X.env) fp) elt te) (hsub : ∀ i ∈ is, i ∈ own.map (·.2) := by decide) (hs : ∀ x, foldedSetIterable iter X.env x = pure x := by intro _; rfl) :
    PSD X (.Assign [.Name y py] (.ListComp elt [⟨tg, iter, ifs, 0⟩] scope pos) spos) (dAsg (dLc wi g tt te (own.map (·.2))) (zn i)) :=
  PS.impI (ps_setLc hc hN hy hyl hsw hi ok hg ht he hs) fun _ _ σ H E _ ⟨η, G, F, hs, hr, t, k⟩ =>
    show tLc _ _ _ _ _ σ H _ from z3s hsub ⟨η, G, _, hs, hr, t, fun d G1 v H1 p1 x1 r1 q1 => k.nx _ G1 _ H1 p1 x1 ((hs.ext hr x1).set i q1) r1⟩
end
end DL
namespace DL
open PySem PySem.Spec PyProof.Rows L2
mutual
def py : D → PyData
  | .non => .none
  | .bl b => .bool b
  | .int i => .int i
  | .str x => .str x
  | .ty _ => .none
  | .ref _ => .none
  | .nd .tup ds => .tuple (pys ds)
  | .nd .lst ds => .list (pys ds)
  | .nd .scr ds => .list (pys ds)
  | .nd _ _ => .none
def pys : List D → List PyData
  | [] => []
  | d :: ds => py d :: pys ds
end
mutual
def zcl : D → Bool
  | .non => true
  | .bl _ => true
  | .int _ => true
  | .str _ => true
  | .nd .tup ds => plainDs ds
  | .nd .lst ds => plainDs ds
  | .nd .scr ds => plainDs ds
  | _ => false
def plainDs : List D → Bool
  | [] => true
  | d :: ds => zcl d && plainDs ds
end
section
variable {K : Ml} {H : Hp} {G : DHp}
mutual
theorem VR.dp : ∀ {d : D} {v : V}, VR K H G d v → zcl d = true → Dp K.K H v (py d)
  | .non, _, h, _ => by rw [VR] at h; subst h; exact .non
  | .bl _, _, h, _ => by rw [VR] at h; subst h; exact .bl _
  | .int _, _, h, _ => by rw [VR] at h; subst h; exact .int _
  | .str _, _, h, _ => by rw [VR] at h; subst h; exact .str _
  | .ty _, _, _, p => by simp [zcl] at p
  | .ref _, _, _, p => by simp [zcl] at p
  | .nd .tup ds, _, h, p => by
    rw [VR] at h
    obtain ⟨a, vs, rfl, q, r⟩ := h
    rw [py]
    exact .tup q (VRs.dp r (by rw [zcl] at p; exact p))
  | .nd .lst ds, _, h, p => by
    rw [VR] at h
    obtain ⟨a, vs, rfl, q, r⟩ := h
    rw [py]
    exact .lst (zdt q (.inl rfl)) (VRs.dp r (by rw [zcl] at p; exact p))
  | .nd .scr ds, _, h, p => by
    rw [VR] at h
    obtain ⟨a, vs, rfl, q, r⟩ := h
    rw [py]
    exact .lst (zdt q (.inr rfl)) (VRs.dp r (by rw [zcl] at p; exact p))
  | .nd (.ins _ _) ds, _, _, p => by simp [zcl] at p
  | .nd (.dK _) ds, _, _, p => by simp [zcl] at p
  | .nd (.dN _) ds, _, _, p => by simp [zcl] at p
theorem VRs.dp : ∀ {ds : List D} {vs : List V}, VRs K H G ds vs → plainDs ds = true → DpAll K.K H vs (pys ds)
  | [], _, h, _ => by rw [h.nil_of, pys]; exact .nil
  | d :: ds, _, h, p => by
    obtain ⟨v, r, rfl, q, t⟩ := h.uncons
    rw [plainDs, Bool.and_eq_true] at p
    rw [pys]
    exact .cons (VR.dp q p.1) (VRs.dp t p.2)
end
/-- what is read at a value: a tracked list by its items -/
def der (d : D) (G : DHp) : D := match d with
  | .ref a => (match G a with
    | some (.lst ds) => .nd .lst ds
    | _ => .ref a)
  | d => d
theorem zvu {a : Addr} {G : DHp} : der (.ref a) G = (match G a with | some (.lst ds) => .nd .lst ds | _ => .ref a) := rfl
theorem zvg {a : Addr} {G : DHp} {ds : List D} (h : G a = some (.lst ds)) : der (.ref a) G = .nd .lst ds := by rw [zvu, h]
theorem zqk (hr : HR K H G) {d : D} {v : V} (h : VR K H G d v) (p : zcl (der d G) = true) : Dp K.K H v (py (der d G)) := by
  cases d with
  | ref a =>
    rw [VR] at h
    subst h
    rw [zvu] at p ⊢
    cases e : G a with
    | none => rw [e] at p; simp [zcl] at p
    | some o =>
      cases o with
      | lst ds =>
        rw [e] at p
        simp only at p ⊢
        obtain ⟨vs, q, r⟩ := hr a _ e
        rw [py]
        exact .lst (.inl (.inl q)) (r.dp (by rw [zcl] at p; exact p))
      | _ => rw [e] at p; simp [zcl] at p
  | _ => exact h.dp p
/-- a list, whatever way it is held -/
theorem zlz (hr : HR K H G) {d : D} {v : V} {ds : List D} (h : VR K H G d v) (e : der d G = .nd .lst ds) : ∃ a vs, v = .ref a ∧ H a = some (.lst vs) ∧ VRs K H G ds vs := by
  cases d with
  | ref a =>
    rw [VR] at h
    subst h
    rw [zvu] at e
    cases g : G a with
    | none => rw [g] at e; cases e
    | some o =>
      cases o with
      | lst ds' =>
        rw [g] at e
        simp only [D.nd.injEq, true_and] at e
        subst e
        obtain ⟨vs, q, r⟩ := hr a _ g
        exact ⟨a, vs, rfl, q, r⟩
      | _ => rw [g] at e; cases e
  | nd k ds' =>
    have e : D.nd k ds' = .nd .lst ds := e
    cases e
    rw [VR] at h
    obtain ⟨a, vs, rfl, q, r⟩ := h
    exact ⟨a, vs, rfl, q.2, r⟩
  | _ => cases e
end
section
variable {X : Cx}
/-- an operator by cases -/
theorem zjo {f : Value → Value → Sem Value} {r : DR2} (h : ∀ pins s σ H G x y v u dx dy P, Inv X pins σ H s → RelV x v → RelV y u → HR X.ml H G → VR X.ml H G dx x → VR X.ml H G dy y → r dx dy G P →
    wpAny (model X.prog X.w) X.A (f v u) (fun w s' => ∃ z d H' G', Inv X pins σ H' s' ∧ RelV z w ∧ P d G' ∧ Ext H G H' G' ∧ HR X.ml H' G' ∧ VR X.ml H' G' d z) X.xe s) : OpD X f r := by
  intro pins s σ H x y v u Q I rx ry ⟨dx, dy, G, P, hr, q1, q2, t, k⟩
  exact thn (h pins s σ H G x y v u dx dy P I rx ry hr q1 q2 t) fun w s' ⟨z, d, H', G', I', rz, p, x', r', q'⟩ => ⟨z, H', I', rz, k d G' z H' p x' r' q'⟩
/-- the end where nothing is made -/
theorem zak {pins : List (Addr × Obj)} {σ : L2.St} {H : Hp} {G : DHp} {s : Shared} {P : D → DHp → Prop} {d : D} {z : V} {w : Value} (I : Inv X pins σ H s) (rz : RelV z w) (hr : HR X.ml H G) (q : VR X.ml H G d z) (p : P d G) :
    ∃ z d H' G', Inv X pins σ H' s ∧ RelV z w ∧ P d G' ∧ Ext H G H' G' ∧ HR X.ml H' G' ∧ VR X.ml H' G' d z := ⟨z, d, H, G, I, rz, p, .refl _ _, hr, q⟩
def i2 (C : Int → Int → Prop) (g : Int → Int → D) : DR2 := fun x y G Q => match x, y with
  | .int i, .int j => C i j ∧ Q (g i j) G
  | _, _ => False
theorem zyg {f : Value → Value → Sem Value} {C : Int → Int → Prop} {g : Int → Int → D} {gv : Int → Int → V} (hg : ∀ i j H G, VR X.ml H G (g i j) (gv i j)) (h : OpR X f (rI C gv)) : OpD X f (i2 C g) := zjo fun pins s σ H G x y v u dx dy P I rx ry hr q1 q2 t => by
  unfold i2 at t
  split at t
  · rename_i i j
    rw [VR] at q1 q2
    subst q1 q2
    refine thn (h pins s σ H _ _ v u (fun z H' => z = gv i j ∧ H' = H) I rx ry ⟨i, j, rfl, rfl, t.1, rfl, rfl⟩) fun w s' ⟨z, H', I', rz, e1, e2⟩ => ?_
    subst e1 e2
    exact zak I' rz hr (hg i j H' G) t.2
  · exact t.elim
theorem zaav {f : Value → Value → Sem Value} {g : Int → Int → V} (h : OpR X f (rI0 g)) : OpR X f (rI (fun _ _ => True) g) := fun pins s σ H x y v u Q I rx ry ⟨i, j, e1, e2, _, q⟩ => h pins s σ H x y v u Q I rx ry ⟨i, j, e1, e2, q⟩
theorem zfc : OpD X (binaryOp .Sub) (i2 (fun _ _ => True) fun i j => .int (i - j)) := zyg (fun _ _ _ _ => by rw [VR]) (zaav op_sub)
theorem zqo : OpD X (binaryOp .Mult) (i2 CMul fun i j => .int (i * j)) := zyg (fun _ _ _ _ => by rw [VR]) op_mul
/-- a divisor below 2 ^ 30 -/
theorem zki : OpD X (binaryOp .FloorDiv) (i2 CDiv fun i j => .int (i / j)) := zyg (fun _ _ _ _ => by rw [VR]) op_fdiv
theorem zqm : OpD X (binaryOp .Mod) (i2 (fun _ j => 0 < j) fun i j => .int (i % j)) := zyg (fun _ _ _ _ => by rw [VR]) op_mod
theorem zaam : OpD X (binaryOp .Pow) (i2 CPow fun i j => .int (i ^ j.toNat)) := zyg (fun _ _ _ _ => by rw [VR]) op_pow
/-- + of ints, texts, tuples, lists (a new list that is changed no more) -/
def dAdd : DR2 := fun x y G Q => match der x G, der y G with
  | .int i, .int j => Q (.int (i + j)) G
  | .str a, .str b => a.length + b.length ≤ sizeLine ∧ Q (.str (a ++ b)) G
  | .nd .tup xs, .nd .tup ys => xs.length + ys.length ≤ sizeLine ∧ Q (.nd .tup (xs ++ ys)) G
  | .nd .lst xs, .nd .lst ys => xs.length + ys.length ≤ sizeLine ∧ Q (.nd .lst (xs ++ ys)) G
  | _, _ => False
theorem zmg {G : DHp} {x d : D} (e : der x G = d) (hl : ∀ ds, d ≠ .nd .lst ds) : x = d := by
  cases x with
  | ref a =>
    rw [zvu] at e
    cases g : G a with
    | none => rw [g] at e; exact e
    | some o =>
      cases o with
      | lst ds => rw [g] at e; exact absurd e.symm (hl ds)
      | _ => rw [g] at e; exact e
  | _ => exact e
theorem zcb : OpD X (binaryOp .Add) dAdd := zjo fun pins s σ H G x y v u dx dy P I rx ry hr q1 q2 t => by
  unfold dAdd at t
  split at t
  · rename_i i j e1 e2
    have e1 := zmg e1 (fun _ h => nomatch h)
    have e2 := zmg e2 (fun _ h => nomatch h)
    subst e1 e2
    rw [VR] at q1 q2
    subst q1 q2
    obtain ⟨t1, rfl⟩ := rx
    obtain ⟨t2, rfl⟩ := ry
    exact add_int (zak (z := .int (i + j)) (I.tok _) ⟨_, rfl⟩ hr (by rw [VR]) t)
  · rename_i i j e1 e2
    have e1 := zmg e1 (fun _ h => nomatch h)
    have e2 := zmg e2 (fun _ h => nomatch h)
    subst e1 e2
    rw [VR] at q1 q2
    subst q1 q2
    exact thn (op_add_str pins s σ H _ _ v u (fun z H' => z = .str (i ++ j) ∧ H' = H) I rx ry ⟨i, j, rfl, rfl, t.1, rfl, rfl⟩) fun w s' ⟨z, H', I', rz, e1, e2⟩ => by
      subst e1 e2
      exact zak I' rz hr (by rw [VR]) t.2
  · rename_i xs ys e1 e2
    have e1 := zmg e1 (fun _ h => nomatch h)
    have e2 := zmg e2 (fun _ h => nomatch h)
    subst e1 e2
    rw [VR] at q1 q2
    obtain ⟨a, vs, rfl, h1, r1⟩ := q1
    obtain ⟨b, ws, rfl, h2, r2⟩ := q2
    refine thn (op_catA pins s σ H _ _ v u (fun z H' => Ext H G H' G ∧ HR X.ml H' G ∧ VR X.ml H' G (.nd .tup (xs ++ ys)) z) I rx ry ⟨a, b, vs, ws, rfl, rfl, h1, h2, by rw [r1.length, r2.length]; exact t.1, fun e => ?_, fun _ e => ?_, fun _ _ p hp => ?_⟩) fun w s' ⟨z, H', I', rz, x', r', q'⟩ => ⟨z, _, H', G, I', rz, t.2, x', r', q'⟩
    · have : xs = [] := by have := r1.length; rw [e] at this; exact List.length_eq_zero_iff.mp this.symm
      subst this
      refine ⟨.refl _ _, hr, ?_⟩
      rw [VR]
      exact ⟨b, ws, rfl, h2, r2⟩
    · have : ys = [] := by have := r2.length; rw [e] at this; exact List.length_eq_zero_iff.mp this.symm
      subst this
      refine ⟨.refl _ _, hr, ?_⟩
      rw [VR, List.append_nil]
      exact ⟨a, vs, rfl, h1, r1⟩
    · have x2 : Ext H G (upd H p (.tup (vs ++ ws))) G := .laid hp
      refine ⟨x2, hr.laid hp, ?_⟩
      rw [VR]
      exact ⟨p, _, rfl, .inl (.inl upd_same), (r1.append r2).ext hr x2⟩
  · rename_i xs ys e1 e2
    obtain ⟨a, vs, rfl, h1, r1⟩ := zlz hr q1 e1
    obtain ⟨b, ws, rfl, h2, r2⟩ := zlz hr q2 e2
    refine thn (op_cat pins s σ H _ _ v u (fun z H' => Ext H G H' G ∧ HR X.ml H' G ∧ VR X.ml H' G (.nd .lst (xs ++ ys)) z) I rx ry ⟨a, b, vs, ws, rfl, rfl, h1, h2, by rw [r1.length, r2.length]; exact t.1, fun p hp => ?_⟩) fun w s' ⟨z, H', I', rz, x', r', q'⟩ => ⟨z, _, H', G, I', rz, t.2, x', r', q'⟩
    have x2 : Ext H G (upd H p (.lst (vs ++ ws))) G := .laid hp
    refine ⟨x2, hr.laid hp, ?_⟩
    rw [VR]
    exact ⟨p, _, rfl, ⟨hr.free hp, upd_same⟩, (r1.append r2).ext hr x2⟩
  · exact t.elim
/-- equality of plain data -/
def dEq : DR2 := fun x y G Q => (zcl (der x G) = true ∧ zcl (der y G) = true ∧ SeqAt.shaped (py (der x G)) = true ∧ SeqAt.shaped (py (der y G)) = true) ∧ Q (.bl (PyData.eqv (py (der x G)) (py (der y G)))) G
def dNe : DR2 := fun x y G Q => (zcl (der x G) = true ∧ zcl (der y G) = true ∧ SeqAt.shaped (py (der x G)) = true ∧ SeqAt.shaped (py (der y G)) = true) ∧ Q (.bl (!PyData.eqv (py (der x G)) (py (der y G)))) G
theorem zk2 (hu : X.A.units + 64 < cLine) : OpD X (compareOp .Eq) dEq := zjo fun pins s σ H G x y v u dx dy P I rx ry hr q1 q2 ⟨⟨p1, p2, s1, s2⟩, t⟩ =>
  thn (op_eqD hu pins s σ H _ _ v u (fun z H' => z = .bl (PyData.eqv (py (der dx G)) (py (der dy G))) ∧ H' = H) I rx ry ⟨_, _, zqk hr q1 p1, zqk hr q2 p2, s1, s2, rfl, rfl⟩) fun w s' ⟨z, H', I', rz, e1, e2⟩ => by
    subst e1 e2
    exact zak I' rz hr (by rw [VR]) t
theorem zni (hu : X.A.units + 64 < cLine) : OpD X (compareOp .NotEq) dNe := zjo fun pins s σ H G x y v u dx dy P I rx ry hr q1 q2 ⟨⟨p1, p2, s1, s2⟩, t⟩ =>
  thn (op_neD hu pins s σ H _ _ v u (fun z H' => z = .bl (!PyData.eqv (py (der dx G)) (py (der dy G))) ∧ H' = H) I rx ry ⟨_, _, zqk hr q1 p1, zqk hr q2 p2, s1, s2, rfl, rfl⟩) fun w s' ⟨z, H', I', rz, e1, e2⟩ => by
    subst e1 e2
    exact zak I' rz hr (by rw [VR]) t
/-- an order of plain data -/
def dOrd (g : PyData → PyData → Bool) : DR2 := fun x y G Q => (zcl x = true ∧ zcl y = true ∧ PySem.W.alike (py x) (py y) = true ∧ py x ≠ .none ∧ (py x).depth ≤ 64) ∧ Q (.bl (g (py x) (py y))) G
abbrev dLt : DR2 := dOrd PySem.W.dataLt
abbrev dLe : DR2 := dOrd fun a b => !PySem.W.dataLt b a
abbrev dGt : DR2 := dOrd fun a b => PySem.W.dataLt b a
abbrev dGe : DR2 := dOrd fun a b => !PySem.W.dataLt a b
theorem z0y {f : Value → Value → Sem Value} {g : PyData → PyData → Bool} (hu : X.A.units + 64 < cLine)
    (h : ∀ {s : Shared} {a b : Value} {da db : PyData} {as bs : List Addr} {Q : Value → Shared → Prop}, Reads s.heap a da as → Reads s.heap b db bs → PySem.W.alike da db = true → da ≠ .none → X.A.units + min da.depth db.depth < cLine → Q (.bool (g da db)) s → wpAny (model X.prog X.w) X.A (f a b) Q X.xe s) : OpD X f (dOrd g) :=
  zjo fun pins s σ H G x y v u dx dy P I rx ry hr q1 q2 ⟨⟨p1, p2, al, nn, dp⟩, t⟩ => by
    obtain ⟨as, r1⟩ := Dp.reads I _ _ v (q1.dp p1) rx
    obtain ⟨bs, r2⟩ := Dp.reads I _ _ u (q2.dp p2) ry
    exact h r1 r2 al nn (by have := Nat.min_le_left (py dx).depth (py dy).depth; omega) (zak (z := .bl _) I rfl hr (by rw [VR]) t)
theorem z54 (hu : X.A.units + 64 < cLine) : OpD X (compareOp .Lt) dLt := z0y hu fun r1 r2 h n u q => PySem.W.lt_data r1 r2 h n u q
theorem z5m (hu : X.A.units + 64 < cLine) : OpD X (compareOp .LtE) dLe := z0y hu fun r1 r2 h n u q => PySem.W.le_data r1 r2 h n u q
theorem zum (hu : X.A.units + 64 < cLine) : OpD X (compareOp .Gt) dGt := z0y hu fun r1 r2 h n u q => PySem.W.gt_data r1 r2 h n u q
theorem z8d (hu : X.A.units + 64 < cLine) : OpD X (compareOp .GtE) dGe := z0y hu fun r1 r2 h n u q => PySem.W.ge_data r1 r2 h n u q
/-- is None -/
def z7s : D → Bool
  | .non => true
  | _ => false
def dIsN (b : Bool) : DR2 := fun x y G Q => match y with
  | .non => Q (.bl (b != z7s x)) G
  | _ => False
theorem z68 {K : Ml} {H : Hp} {G : DHp} {d : D} {v : V} (h : VR K H G d v) : z7s d = decide (v = .non) := by
  cases d with
  | nd k ds => rw [VR] at h; obtain ⟨a, vs, rfl, _⟩ := h; rfl
  | _ => rw [VR] at h; subst h; rfl
theorem z58 : OpD X (compareOp .IsNot) (dIsN true) := zjo fun pins s σ H G x y v u dx dy P I rx ry hr q1 q2 t => by
  cases dy with
  | non =>
    rw [VR] at q2; subst q2
    refine thn (op_notN pins s σ H _ _ v u (fun z H' => z = .bl (!decide (x = .non)) ∧ H' = H) I rx ry ⟨rfl, rfl, rfl⟩) fun w s' ⟨z, H', I', rz, e1, e2⟩ => ?_
    subst e1 e2
    refine zak I' rz hr (d := .bl (!decide (x = .non))) (by rw [VR]) ?_
    rw [← z68 q1]
    have t : P (.bl (true != z7s dx)) G := t
    simpa using t
  | _ => exact t.elim
end
end DL
namespace DL
open PySem PySem.Spec PyProof.Rows L2
def dicN (y : D) (G : DHp) : Option (List (NestedKey × D)) := match y with
  | .nd (.dN ks) vs => some (ks.zip vs)
  | .ref a => (match G a with
    | some (.dN kvs) => some kvs
    | _ => none)
  | _ => none
def dicK (y : D) (G : DHp) : Option (List (Key × D)) := match y with
  | .nd (.dK ks) vs => some (ks.zip vs)
  | .ref a => (match G a with
    | some (.dK kvs) => some kvs
    | _ => none)
  | _ => none
def D.kK : D → Option Key
  | .int i => some (.inl i)
  | .str x => some (.inr x)
  | _ => none
/-- what stands at a key -/
def dval {κ : Type} [DecidableEq κ] (kvs : List (κ × D)) (k : κ) : Option D := (kvs.find? fun p => decide (p.1 = k)).map (·.2)
/-- d[k] = v -/
def dput {κ : Type} [DecidableEq κ] (kvs : List (κ × D)) (k : κ) (v : D) : List (κ × D) :=
  if kvs.any fun p => decide (p.1 = k) then kvs.map fun p => if p.1 = k then (p.1, v) else p else kvs ++ [(k, v)]
theorem zvn {α β : Type} : ∀ {l : List α} {m : List β}, l.length = m.length → (l.zip m).map (·.1) = l
  | [], _, _ => rfl
  | _ :: _, [], h => by simp at h
  | a :: l, b :: m, h => by simp [zvn (l := l) (m := m) (by simpa using h)]
theorem zwa {α β : Type} : ∀ {l : List α} {m : List β}, l.length = m.length → (l.zip m).map (·.2) = m
  | [], [], _ => rfl
  | [], _ :: _, h => by simp at h
  | _ :: _, [], h => by simp at h
  | a :: l, b :: m, h => by simp [zwa (l := l) (m := m) (by simpa using h)]
section
variable {K : Ml} {H : Hp} {G : DHp}
theorem zsl (hr : HR K H G) {d : D} {v : V} {kvs : List (NestedKey × D)} (h : VR K H G d v) (e : dicN d G = some kvs) : ∃ a ws, v = .ref a ∧ DnAt K H a (kvs.map (·.1)) ws ∧ VRs K H G (kvs.map (·.2)) ws := by
  cases d with
  | ref a =>
    rw [VR] at h
    have e : (match G a with | some (.dN kvs) => some kvs | _ => none) = some kvs := e
    cases g : G a with
    | none => rw [g] at e; cases e
    | some o =>
      cases o with
      | dN kvs' =>
        rw [g] at e
        cases e
        obtain ⟨ws, q, r⟩ := hr a _ g
        exact ⟨a, ws, h, q, r⟩
      | _ => rw [g] at e; cases e
  | nd k ds =>
    cases k with
    | dN ks =>
      cases e
      rw [VR] at h
      obtain ⟨a, vs, ev, ⟨_, q⟩, r⟩ := h
      have hl : ks.length = ds.length := by
        obtain ⟨xs, _, _, _, _, _, h4, _, _, _, h8⟩ := id q
        rw [← r.length, h8.length, ← h4, List.length_map, List.length_map]
      exact ⟨a, vs, ev, by rw [zvn hl]; exact q, by rw [zwa hl]; exact r⟩
    | _ => cases e
  | _ => cases e
theorem zsz (hr : HR K H G) {d : D} {v : V} {kvs : List (Key × D)} (h : VR K H G d v) (e : dicK d G = some kvs) : ∃ a ws, v = .ref a ∧ Rd H a (.dK ws) ∧ ws.map (·.1) = kvs.map (·.1) ∧ VRs K H G (kvs.map (·.2)) (ws.map (·.2)) := by
  cases d with
  | ref a =>
    rw [VR] at h
    have e : (match G a with | some (.dK kvs) => some kvs | _ => none) = some kvs := e
    cases g : G a with
    | none => rw [g] at e; cases e
    | some o =>
      cases o with
      | dK kvs' =>
        rw [g] at e
        cases e
        obtain ⟨ws, q, z, r⟩ := hr a _ g
        exact ⟨a, ws, h, .inl q, z, r⟩
      | _ => rw [g] at e; cases e
  | nd k ds =>
    cases k with
    | dK ks =>
      cases e
      rw [VR] at h
      obtain ⟨a, vs, ev, ⟨l, o, q⟩, r⟩ := h
      have hl : ks.length = ds.length := by rw [l, r.length]
      exact ⟨a, ks.zip vs, ev, .inr ⟨o, q⟩, by rw [zvn l, zvn hl], by rw [zwa l, zwa hl]; exact r⟩
    | _ => cases e
  | _ => cases e
/-- the values found by keys are the same -/
theorem zse {κ : Type} [DecidableEq κ] (k : κ) : ∀ {ws : List (κ × V)} {kvs : List (κ × D)}, ws.map (·.1) = kvs.map (·.1) → VRs K H G (kvs.map (·.2)) (ws.map (·.2)) → (dval kvs k = none ∧ valV ws k = none) ∨ ∃ d v, dval kvs k = some d ∧ valV ws k = some v ∧ VR K H G d v
  | [], [], _, _ => .inl ⟨rfl, rfl⟩
  | [], _ :: _, h, _ => by simp at h
  | _ :: _, [], h, _ => by simp at h
  | (k1, v) :: ws, (k2, d) :: kvs, h, r => by
    simp only [List.map_cons, List.cons.injEq] at h
    obtain ⟨h1, h2⟩ := h
    subst h1
    obtain ⟨v', r', e, q, t⟩ := VRs.uncons r
    simp only [List.map_cons, List.cons.injEq] at e
    obtain ⟨rfl, rfl⟩ := e
    by_cases hk : k1 = k
    · exact .inr ⟨d, v, by simp [dval, hk], by simp [valV, hk], q⟩
    · have := zse k h2 t
      simpa [dval, valV, hk] using this
mutual
theorem zu0 : ∀ {d : D} {v : V} {k : NestedKey}, VR K H G d v → D.key d = some k → zii K H k v
  | .non, _, _, h, e => by rw [D.key] at e; cases e; rw [VR] at h; rw [zii]; exact h
  | .bl _, _, _, h, e => by simp [D.key] at e
  | .int _, _, _, h, e => by rw [D.key] at e; cases e; rw [VR] at h; rw [zii]; exact h
  | .str _, _, _, h, e => by rw [D.key] at e; cases e; rw [VR] at h; rw [zii]; exact h
  | .ty _, _, _, h, e => by simp [D.key] at e
  | .ref _, _, _, h, e => by simp [D.key] at e
  | .nd .tup ds, _, _, h, e => by
    rw [D.key] at e
    cases q : D.keys ds with
    | none => rw [q] at e; cases e
    | some ks =>
      rw [q] at e
      cases e
      rw [VR] at h
      obtain ⟨a, vs, rfl, hh, r⟩ := h
      rw [zii]
      exact ⟨a, vs, rfl, hh, keys_at r q⟩
  | .nd .lst _, _, _, h, e => by simp [D.key] at e
  | .nd .scr _, _, _, h, e => by simp [D.key] at e
  | .nd (.ins _ _) _, _, _, h, e => by simp [D.key] at e
  | .nd (.dK _) _, _, _, h, e => by simp [D.key] at e
  | .nd (.dN _) _, _, _, h, e => by simp [D.key] at e
theorem keys_at : ∀ {ds : List D} {vs : List V} {ks : List NestedKey}, VRs K H G ds vs → D.keys ds = some ks → KeysAt K H ks vs
  | [], _, _, h, e => by rw [D.keys] at e; cases e; rw [KeysAt]; exact h.nil_of
  | d :: ds, _, _, h, e => by
    obtain ⟨v, r, rfl, q, t⟩ := h.uncons
    rw [D.keys] at e
    cases e1 : D.key d with
    | none => rw [e1] at e; cases e
    | some k =>
      cases e2 : D.keys ds with
      | none => rw [e1, e2] at e; cases e
      | some ks' =>
        rw [e1, e2] at e
        cases e
        rw [KeysAt]
        exact ⟨v, r, rfl, zu0 q e1, keys_at t e2⟩
end
end
section
variable {X : Cx}
mutual
theorem zji {pins : List (Addr × Obj)} {σ : L2.St} {H : Hp} {s : Shared} (I : Inv X pins σ H s) : ∀ {k : NestedKey} {v : V} {u : Value}, zii X.ml H k v → RelV v u → NestedIs s.heap k u
  | .none, _, _, h, r => by rw [zii] at h; subst h; cases (show _ = Value.none from r); exact .none
  | .num i, _, _, h, r => by rw [zii] at h; subst h; obtain ⟨t, rfl⟩ := r; exact .int i t
  | .text x, _, _, h, r => by rw [zii] at h; subst h; obtain ⟨t, rfl⟩ := r; exact .text x t
  | .tup ks, _, _, h, r => by
    rw [zii] at h
    obtain ⟨a, vs, rfl, q, t⟩ := h
    cases (show _ = Value.ref a from r)
    obtain ⟨its, rv, ⟨o, ho, hc, n, hd⟩, _⟩ := I.tuple q
    exact .tup ho hc hd (nested_all I t rv)
theorem nested_all {pins : List (Addr × Obj)} {σ : L2.St} {H : Hp} {s : Shared} (I : Inv X pins σ H s) : ∀ {ks : List NestedKey} {vs : List V} {us : List Value}, KeysAt X.ml H ks vs → Vals vs us → NestedAll s.heap ks us
  | [], _, _, h, r => by rw [KeysAt] at h; subst h; cases r; exact .nil
  | k :: ks, _, _, h, r => by
    rw [KeysAt] at h
    obtain ⟨v, w, rfl, q, t⟩ := h
    cases r with
    | cons r1 r2 => exact .cons (zji I q r1) (nested_all I t r2)
end
/-- a dict with nested keys at the library's level -/
theorem DnAt.of {pins : List (Addr × Obj)} {σ : L2.St} {H : Hp} {s : Shared} {a : Addr} {ks : List NestedKey} {vs : List V} (I : Inv X pins σ H s) (h : DnAt X.ml H a ks vs) :
    ∃ xs es ep, H a = some (rawO a es ep) ∧ s.heap.DictRaw a es ep ∧ es.toList = xs.map (entryOfKey (nestedKind X.prog X.w)) ∧ s.heap.DictOfH (nestedKind X.prog X.w) a xs ∧ (a == sysModules) = false ∧ xs.map (·.1) = ks ∧ ks.length ≤ sizeLine ∧ (∀ x ∈ xs, zii X.ml H x.1 (.ref x.2.1) ∧ x.1.depth ≤ 8) ∧ Vals vs (xs.map (·.2.2)) := by
  obtain ⟨xs, es, ep, h1, h2, h3, h4, h5, h6, h7, h8⟩ := h
  obtain ⟨φ, _, _⟩ := (show ObjOk X.prog X.w H s.heap a (rawO a es ep) from I.hok a _ h1)
  refine ⟨xs, es, ep, h1, φ, h3, ?_, h2, h4, h6, h7, h8⟩
  obtain ⟨o, ho, hc, hd⟩ := φ
  exact ⟨o, es, ep, ho, hc, hd, h3, fun x hx => ⟨zji I (h7 x hx).1 rfl, (h7 x hx).2⟩, by rw [h4]; exact h5⟩
theorem zsr {A : Around} (hu : A.units + 64 < cLine) : (nestedKind X.prog X.w).room A.in1 := by
  show A.units + 1 + 8 < cLine
  omega
/-- the dict at a has been written -/
theorem z5n {pins : List (Addr × Obj)} {σ : L2.St} {H : Hp} {s : Shared} {a : Addr} {es es' : Array DictEntry} {ep ep' t' : Nat} {h' : Heap} (I : Inv X pins σ H s) (hH : H a = some (rawO a es ep)) (hs : Heap.SameBut a s.heap h') (hr : h'.DictRaw a es' ep') :
    Inv X pins σ (upd H a (rawO a es' ep')) { s with heap := h', toks := t' } := by
  obtain ⟨o, ho, hc, hd⟩ := id hr
  exact I.write (by rw [hH]; trivial) (.inl rfl) (fun b u hb e => (hs.2 b hb).trans e) ⟨o, ho⟩ ⟨hr, ⟨o, ho⟩, fun h1 h2 φ k => φ.at k⟩
theorem zmw {K : Type} {xs : List (NestedKey × Addr × Value)} {k : NestedKey} {vs : List V} (r : Vals vs (xs.map (·.2.2))) : ∀ (kvs : List (NestedKey × D)) (H : Hp) (G : DHp) (M : Ml), xs.map (·.1) = kvs.map (·.1) → VRs M H G (kvs.map (·.2)) vs →
    (dval kvs k = none ∧ atKey xs k = none) ∨ ∃ d v p, dval kvs k = some d ∧ atKey xs k = some p ∧ RelV v p.2 ∧ VR M H G d v := by
  induction xs generalizing vs with
  | nil =>
    intro kvs H G M h1 h2
    cases kvs with
    | nil => exact .inl ⟨rfl, rfl⟩
    | cons _ _ => simp at h1
  | cons x xs ih =>
    intro kvs H G M h1 h2
    cases kvs with
    | nil => simp at h1
    | cons y kvs =>
      obtain ⟨k2, d⟩ := y
      simp only [List.map_cons, List.cons.injEq] at h1
      obtain ⟨v, w, rfl, q, t⟩ := VRs.uncons h2
      cases r with
      | cons r1 r2 =>
        by_cases hk : k2 = k
        · exact .inr ⟨d, v, x.2, by simp [dval, hk], by simp [atKey, h1.1, hk], r1, q⟩
        · have hk' : ¬ x.1 = k := by rw [h1.1]; exact hk
          have := ih r2 kvs H G M h1.2 t
          simpa [dval, atKey, hk, hk'] using this
theorem zro {κ : Type} [DecidableEq κ] (k : κ) : ∀ kvs : List (κ × D), (kvs.any fun p => decide (p.1 = k)) = (dval kvs k).isSome
  | [] => rfl
  | (a, d) :: kvs => by
    by_cases h : a = k
    · simp [dval, h]
    · have := zro k kvs
      simp only [List.any_cons, h, decide_false, Bool.false_or, this]
      simp [dval, h]
def dIn (neg : Bool) : DR2 := fun x y G Q => match der y G with
  | .nd .lst ds => (zcl x = true ∧ plainDs ds = true ∧ SeqAt.shaped (py x) = true ∧ PyData.canLayAll0 (pys ds) = true) ∧ Q (.bl (neg != (pys ds).any fun z => PyData.eqv z (py x))) G
  | .nd .tup ds => (zcl x = true ∧ plainDs ds = true ∧ SeqAt.shaped (py x) = true ∧ PyData.canLayAll0 (pys ds) = true) ∧ Q (.bl (neg != (pys ds).any fun z => PyData.eqv z (py x))) G
  | _ => match dicN y G with
    | some kvs => (match x with
      | .nd .tup _ => (match x.key with
        | some k => k.depth ≤ 8 ∧ Q (.bl (neg != (dval kvs k).isSome)) G
        | none => False)
      | _ => False)
    | none => match dicK y G with
      | some kvs => (match x.kK with
        | some k => Q (.bl (neg != (dval kvs k).isSome)) G
        | none => False)
      | none => False
theorem z3b {K : Ml} {H : Hp} {G : DHp} {d : D} {v : V} {k : Key} (h : VR K H G d v) (e : d.kK = some k) : v = kV k := by
  cases d with
  | int i => rw [VR] at h; cases e; exact h
  | str i => rw [VR] at h; cases e; exact h
  | _ => cases e
theorem zabw (hu : X.A.units + 65 < cLine) : OpD X (compareOp .In) (dIn false) := zjo fun pins s σ H G x y v u dx dy P I rx ry hr q1 q2 t => by
  unfold dIn at t
  split at t
  · rename_i ds e
    obtain ⟨⟨p1, p2, s1, s2⟩, t⟩ := t
    have hp := zqk hr q2 (by rw [e, zcl]; exact p2)
    rw [e, py] at hp
    obtain ⟨as, r1⟩ := Dp.reads I _ _ v (q1.dp p1) rx
    obtain ⟨bs, r2⟩ := Dp.reads I _ _ u hp ry
    exact SeqAt.in_list_reads r2 r1 s2 (SeqAt.canLay_of_shaped s1) (room_in_shaped s1 hu) (zak (z := .bl _) I rfl hr (d := .bl ((pys ds).any fun z => PyData.eqv z (py dx))) (by rw [VR]) (by simpa using t))
  · rename_i ds e
    obtain ⟨⟨p1, p2, s1, s2⟩, t⟩ := t
    have hp := zqk hr q2 (by rw [e, zcl]; exact p2)
    rw [e, py] at hp
    obtain ⟨as, r1⟩ := Dp.reads I _ _ v (q1.dp p1) rx
    obtain ⟨bs, r2⟩ := Dp.reads I _ _ u hp ry
    exact SeqAt.in_tuple_reads r2 r1 s2 (SeqAt.canLay_of_shaped s1) (room_in_shaped s1 hu) (zak (z := .bl _) I rfl hr (d := .bl ((pys ds).any fun z => PyData.eqv z (py dx))) (by rw [VR]) (by simpa using t))
  · split at t
    · rename_i kvs e
      cases dx with
      | nd kd ds =>
        cases kd with
        | tup =>
          have t : (match D.key (.nd .tup ds) with | some k => k.depth ≤ 8 ∧ P (.bl (false != (dval kvs k).isSome)) G | none => False) := t
          cases ek : D.key (.nd .tup ds) with
          | none => rw [ek] at t; exact t.elim
          | some k =>
            rw [ek] at t
            obtain ⟨hd8, t⟩ := (show k.depth ≤ 8 ∧ P (.bl (false != (dval kvs k).isSome)) G from t)
            have ka := zu0 q1 ek
            obtain ⟨a, ws, rfl, dn, vr⟩ := zsl hr q2 e
            obtain ⟨xs, es, ep, h1, h2, h3, h4, h5, h6, h7, h8, h9⟩ := DnAt.of I dn
            rw [VR] at q1
            obtain ⟨b, vs, rfl, hb, rb⟩ := q1
            cases (show v = Value.ref b from rx)
            cases (show u = Value.ref a from ry)
            refine wpAny_in_heap (zsr (by omega)) ⟨zji I ka rfl, hd8⟩ h5 h4 (zak (z := .bl _) (I.tok _) rfl hr (d := .bl (atKey xs k).isSome) (by rw [VR]) ?_)
            rcases zmw (K := Unit) (k := k) h9 kvs H G X.ml h6 vr with ⟨e1, e2⟩ | ⟨d, w, p, e1, e2, _, _⟩
            · rw [e2]; rw [e1] at t; simpa using t
            · rw [e2]; rw [e1] at t; simpa using t
        | _ => exact t.elim
      | _ => exact t.elim
    · split at t
      · rename_i kvs e
        cases ek : dx.kK with
        | none => rw [ek] at t; exact t.elim
        | some k =>
          rw [ek] at t
          have t : P (.bl (false != (dval kvs k).isSome)) G := t
          obtain ⟨a, ws, rfl, rd, e1, vr⟩ := zsz hr q2 e
          cases (show u = Value.ref a from ry)
          have ex := z3b q1 ek
          subst ex
          have g : DGet H a (kV k) (valV ws k) := .inl ⟨ws, k, rd, rfl, rfl⟩
          refine d_in (by omega) I g rx fun s' I' => zak (z := .bl _) I' rfl hr (d := .bl (valV ws k).isSome) (by rw [VR]) ?_
          rcases zse k e1 vr with ⟨e2, e3⟩ | ⟨d, w, e2, e3, _⟩
          · rw [e3]; rw [e2] at t; simpa using t
          · rw [e3]; rw [e2] at t; simpa using t
      · exact t.elim
theorem z52 (hu : X.A.units + 65 < cLine) : OpD X (compareOp .NotIn) (dIn true) := zjo fun pins s σ H G x y v u dx dy P I rx ry hr q1 q2 t => by
  unfold dIn at t
  split at t
  · rename_i ds e
    obtain ⟨⟨p1, p2, s1, s2⟩, t⟩ := t
    have hp := zqk hr q2 (by rw [e, zcl]; exact p2)
    rw [e, py] at hp
    obtain ⟨as, r1⟩ := Dp.reads I _ _ v (q1.dp p1) rx
    obtain ⟨bs, r2⟩ := Dp.reads I _ _ u hp ry
    exact SeqAt.notIn_list_reads r2 r1 s2 (SeqAt.canLay_of_shaped s1) (room_in_shaped s1 hu) (zak (z := .bl _) I rfl hr (d := .bl (!(pys ds).any fun z => PyData.eqv z (py dx))) (by rw [VR]) (by simpa using t))
  · rename_i ds e
    obtain ⟨⟨p1, p2, s1, s2⟩, t⟩ := t
    have hp := zqk hr q2 (by rw [e, zcl]; exact p2)
    rw [e, py] at hp
    obtain ⟨as, r1⟩ := Dp.reads I _ _ v (q1.dp p1) rx
    obtain ⟨bs, r2⟩ := Dp.reads I _ _ u hp ry
    exact SeqAt.notIn_tuple_reads r2 r1 s2 (SeqAt.canLay_of_shaped s1) (room_in_shaped s1 hu) (zak (z := .bl _) I rfl hr (d := .bl (!(pys ds).any fun z => PyData.eqv z (py dx))) (by rw [VR]) (by simpa using t))
  · split at t
    · rename_i kvs e
      cases dx with
      | nd kd ds =>
        cases kd with
        | tup =>
          have t : (match D.key (.nd .tup ds) with | some k => k.depth ≤ 8 ∧ P (.bl (true != (dval kvs k).isSome)) G | none => False) := t
          cases ek : D.key (.nd .tup ds) with
          | none => rw [ek] at t; exact t.elim
          | some k =>
            rw [ek] at t
            obtain ⟨hd8, t⟩ := (show k.depth ≤ 8 ∧ P (.bl (true != (dval kvs k).isSome)) G from t)
            have ka := zu0 q1 ek
            obtain ⟨a, ws, rfl, dn, vr⟩ := zsl hr q2 e
            obtain ⟨xs, es, ep, h1, h2, h3, h4, h5, h6, h7, h8, h9⟩ := DnAt.of I dn
            rw [VR] at q1
            obtain ⟨b, vs, rfl, hb, rb⟩ := q1
            cases (show v = Value.ref b from rx)
            cases (show u = Value.ref a from ry)
            show wpAny _ _ (do return Value.bool (!(← contains (.ref a) (.ref b)))) _ X.xe s
            refine wpAny_bind (wpAny_contains_heap (zsr (X := X) (A := X.A) (by omega)) ⟨zji I ka rfl, hd8⟩ h5 h4 (wpAny_pure (zak (z := .bl _) (I.tok _) rfl hr (d := .bl (!(atKey xs k).isSome)) (by rw [VR]) ?_)))
            rcases zmw (K := Unit) (k := k) h9 kvs H G X.ml h6 vr with ⟨e1, e2⟩ | ⟨d, w, p, e1, e2, _, _⟩
            · rw [e2]; rw [e1] at t; simpa using t
            · rw [e2]; rw [e1] at t; simpa using t
        | _ => exact t.elim
      | _ => exact t.elim
    · split at t
      · rename_i kvs e
        cases ek : dx.kK with
        | none => rw [ek] at t; exact t.elim
        | some k =>
          rw [ek] at t
          have t : P (.bl (true != (dval kvs k).isSome)) G := t
          obtain ⟨a, ws, rfl, rd, e1, vr⟩ := zsz hr q2 e
          cases (show u = Value.ref a from ry)
          have ex := z3b q1 ek
          subst ex
          have g : DGet H a (kV k) (valV ws k) := .inl ⟨ws, k, rd, rfl, rfl⟩
          refine d_notIn (by omega) I g rx fun s' I' => zak (z := .bl _) I' rfl hr (d := .bl (!(valV ws k).isSome)) (by rw [VR]) ?_
          rcases zse k e1 vr with ⟨e2, e3⟩ | ⟨d, w, e2, e3, _⟩
          · rw [e3]; rw [e2] at t; simpa using t
          · rw [e3]; rw [e2] at t; simpa using t
      · exact t.elim
end
end DL
namespace DL
open PySem PySem.Spec PyProof.Rows L2
section
variable {K : Ml} {H : Hp} {G : DHp}
theorem z0t {κ : Type} [DecidableEq κ] (kvs : List (κ × D)) (k : κ) (v : D) : (dput kvs k v).map (·.1) = if (dval kvs k).isSome then kvs.map (·.1) else kvs.map (·.1) ++ [k] := by
  unfold dput
  rw [zro]
  split
  · rw [List.map_map]
    refine List.map_congr_left fun x _ => ?_
    simp only [Function.comp]
    split <;> rfl
  · simp
theorem z8r {κ : Type} [DecidableEq κ] (kvs : List (κ × V)) (k : κ) (v : V) : (putK kvs k v).map (·.1) = if (valV kvs k).isSome then kvs.map (·.1) else kvs.map (·.1) ++ [k] := by
  unfold putK
  rw [valV_any]
  split
  · rw [List.map_map]
    refine List.map_congr_left fun x _ => ?_
    simp only [Function.comp]
    split <;> rfl
  · simp
theorem ztd {κ : Type} [DecidableEq κ] {k : κ} : ∀ {ws : List (κ × V)} {kvs : List (κ × D)}, ws.map (·.1) = kvs.map (·.1) → (valV ws k).isSome = (dval kvs k).isSome
  | [], [], _ => rfl
  | [], _ :: _, h => by simp at h
  | _ :: _, [], h => by simp at h
  | (k1, v) :: ws, (k2, d) :: kvs, h => by
    simp only [List.map_cons, List.cons.injEq] at h
    obtain ⟨h1, h2⟩ := h
    subst h1
    by_cases hk : k1 = k
    · simp [dval, valV, hk]
    · have := ztd (k := k) h2
      simpa [dval, valV, hk] using this
theorem zz3 {κ : Type} [DecidableEq κ] (k : κ) {d : D} {v : V} (hv : VR K H G d v) : ∀ {ws : List (κ × V)} {kvs : List (κ × D)}, ws.map (·.1) = kvs.map (·.1) → VRs K H G (kvs.map (·.2)) (ws.map (·.2)) →
    VRs K H G ((kvs.map fun p => if p.1 = k then (p.1, d) else p).map (·.2)) ((ws.map fun p => if p.1 = k then (p.1, v) else p).map (·.2))
  | [], [], _, _ => .nil
  | [], _ :: _, h, _ => by simp at h
  | _ :: _, [], h, _ => by simp at h
  | (k1, w) :: ws, (k2, e) :: kvs, h, r => by
    simp only [List.map_cons, List.cons.injEq] at h
    obtain ⟨h1, h2⟩ := h
    subst h1
    obtain ⟨v', r', eq, q, t⟩ := VRs.uncons r
    simp only [List.map_cons, List.cons.injEq] at eq
    obtain ⟨rfl, rfl⟩ := eq
    by_cases hk : k1 = k
    · simp only [List.map_cons, hk, if_true]
      exact .cons hv (zz3 k hv h2 t)
    · simp only [List.map_cons, hk, if_false]
      exact .cons q (zz3 k hv h2 t)
theorem z9w {κ : Type} [DecidableEq κ] (k : κ) {d : D} {v : V} (hv : VR K H G d v) {ws : List (κ × V)} {kvs : List (κ × D)} (h : ws.map (·.1) = kvs.map (·.1)) (r : VRs K H G (kvs.map (·.2)) (ws.map (·.2))) :
    (putK ws k v).map (·.1) = (dput kvs k d).map (·.1) ∧ VRs K H G ((dput kvs k d).map (·.2)) ((putK ws k v).map (·.2)) := by
  refine ⟨by rw [z8r, z0t, h, ztd h], ?_⟩
  unfold dput putK
  rw [zro, valV_any, ztd h]
  split
  · exact zz3 k hv h r
  · rw [List.map_append, List.map_append]
    exact r.append (.cons hv .nil)
theorem z41 {κ : Type} [DecidableEq κ] (kvs : List (κ × D)) (k : κ) (v : D) : (dput kvs k v).length ≤ kvs.length + 1 := by
  unfold dput
  split <;> simp
end
section
variable {X : Cx}
/-- the entries that stand behind a store in a dict with nested keys -/
theorem z9v {pins : List (Addr × Obj)} {σ : L2.St} {H : Hp} {G : DHp} {s : Shared} {a b : Addr} {kvs : List (NestedKey × D)} {k : NestedKey} {d : D} {v : V} {u : Value} {h' : Heap} {t' : Nat} {es : Array DictEntry} {ep : Nat} {ws : List V} {xs : List (NestedKey × Addr × Value)}
    (I : Inv X pins σ H s) (hr : HR X.ml H G) (hG : G a = some (.dN kvs)) (hH : H a = some (rawO a es ep)) (hsm : (a == sysModules) = false) (hm : s.heap.DictOfH (nestedKind X.prog X.w) a xs) (hks : xs.map (·.1) = kvs.map (·.1)) (hat : ∀ x ∈ xs, zii X.ml H x.1 (.ref x.2.1) ∧ x.1.depth ≤ 8)
    (hvs : Vals ws (xs.map (·.2.2))) (vr : VRs X.ml H G (kvs.map (·.2)) ws) (hk : zii X.ml H k (.ref b)) (h8 : k.depth ≤ 8) (hv : VR X.ml H G d v) (ru : RelV v u) (hlen : kvs.length < sizeLine) (hm' : h'.DictOfH (nestedKind X.prog X.w) a (storedH xs k b u)) (hs : Heap.SameBut a s.heap h') :
    ∃ H', Inv X pins σ H' { s with heap := h', toks := t' } ∧ Ext H G H' (up G a (.dN (dput kvs k d))) ∧ HR X.ml H' (up G a (.dN (dput kvs k d))) := by
  obtain ⟨o', es', ep', ho', hc', hd', he', _, hn'⟩ := hm'
  have raw : h'.DictRaw a es' ep' := ⟨o', ho', hc', hd'⟩
  have x : Ext H G (upd H a (rawO a es' ep')) (up G a (.dN (dput kvs k d))) := .write hG
  refine ⟨_, z5n (t' := t') I hH hs raw, x, hr.write hG ?_⟩
  have some_eq : (atKey xs k).isSome = (dval kvs k).isSome := by
    rcases zmw (K := Unit) (k := k) hvs kvs H G X.ml hks vr with ⟨e1, e2⟩ | ⟨_, _, _, e1, e2, _, _⟩ <;> rw [e1, e2] <;> rfl
  have keys : (storedH xs k b u).map (·.1) = (dput kvs k d).map (·.1) := by
    rw [z0t, ← some_eq, ← hks]
    unfold storedH
    split
    · rw [List.map_map]
      refine List.map_congr_left fun x _ => ?_
      simp only [Function.comp, putAt]
      split <;> rfl
    · simp
  have vals : ∃ ws', Vals ws' ((storedH xs k b u).map (·.2.2)) ∧ VRs X.ml H G ((dput kvs k d).map (·.2)) ws' := by
    have go : ∀ {xs : List (NestedKey × Addr × Value)} {kvs : List (NestedKey × D)} {ws : List V}, xs.map (·.1) = kvs.map (·.1) → Vals ws (xs.map (·.2.2)) → VRs X.ml H G (kvs.map (·.2)) ws →
        ∃ ws', Vals ws' ((xs.map (putAt k u)).map (·.2.2)) ∧ VRs X.ml H G ((kvs.map fun p => if p.1 = k then (p.1, d) else p).map (·.2)) ws' := by
      intro xs
      induction xs with
      | nil =>
        intro kvs ws h1 h2 h3
        cases kvs with
        | nil => exact ⟨[], .nil, .nil⟩
        | cons _ _ => simp at h1
      | cons y xs ih =>
        intro kvs ws h1 h2 h3
        cases kvs with
        | nil => simp at h1
        | cons z kvs =>
          obtain ⟨k2, e⟩ := z
          simp only [List.map_cons, List.cons.injEq] at h1
          obtain ⟨v0, w0, rfl, q0, t0⟩ := VRs.uncons h3
          cases h2 with
          | cons r1 r2 =>
            obtain ⟨ws', a1, a2⟩ := ih h1.2 r2 t0
            by_cases hkk : k2 = k
            · refine ⟨v :: ws', ?_, ?_⟩
              · rw [List.map_cons, List.map_cons]
                have : (putAt k u y).2.2 = u := by simp [putAt, h1.1, hkk]
                rw [this]
                exact .cons ru a1
              · simp only [List.map_cons, hkk, if_true]
                exact .cons hv a2
            · refine ⟨v0 :: ws', ?_, ?_⟩
              · rw [List.map_cons, List.map_cons]
                have : (putAt k u y).2.2 = y.2.2 := by simp [putAt, h1.1, hkk]
                rw [this]
                exact .cons r1 a1
              · simp only [List.map_cons, hkk, if_false]
                exact .cons q0 a2
    unfold storedH dput
    rw [zro, some_eq]
    split
    · exact go hks hvs vr
    · refine ⟨ws ++ [v], ?_, ?_⟩
      · rw [List.map_append]
        exact hvs.append (.cons ru .nil)
      · rw [List.map_append]
        exact vr.append (.cons hv .nil)
  obtain ⟨ws', v1, v2⟩ := vals
  refine ⟨ws', ⟨storedH xs k b u, es', ep', upd_same, hsm, he', keys, by rw [← keys]; exact hn', by rw [List.length_map]; have := z41 kvs k d; omega, fun y hy => ?_, v1⟩, v2.ext hr x⟩
  have old : ∀ y ∈ xs, zii X.ml (upd H a (rawO a es' ep')) y.1 (.ref y.2.1) ∧ y.1.depth ≤ 8 := fun y hy => ⟨(hat y hy).1.ext hr x, (hat y hy).2⟩
  unfold storedH at hy
  split at hy
  · obtain ⟨z, hz, rfl⟩ := List.mem_map.mp hy
    have e1 : (putAt k u z).1 = z.1 := by unfold putAt; split <;> rfl
    have e2 : (putAt k u z).2.1 = z.2.1 := by unfold putAt; split <;> rfl
    rw [e1, e2]
    exact old z hz
  · rcases List.mem_append.mp hy with hy | hy
    · exact old y hy
    · have : y = (k, b, u) := by simpa using hy
      subst this
      exact ⟨hk.ext hr x, h8⟩
abbrev DSet := D → D → D → DHp → (DHp → Prop) → Prop
def zy9 (K : Ml) (r : DSet) : TSet := fun o i v H Q => ∃ do_ di dv G P, HR K H G ∧ VR K H G do_ o ∧ VR K H G di i ∧ VR K H G dv v ∧ r do_ di dv G P ∧ ∀ G' H', P G' → Ext H G H' G' → HR K H' G' → Q H'
def dSet : DSet := fun o i v G Q => match o with
  | .ref a => (match G a with
    | some (.lst ds) => (match i with
      | .int k => (match ixN ds.length k with
        | some j => Q (up G a (.lst (ds.set j v)))
        | none => False)
      | _ => False)
    | some (.dN kvs) => (match i with
      | .nd .tup ks => (match D.key (.nd .tup ks) with
        | some k => (k.depth ≤ 8 ∧ kvs.length < sizeLine) ∧ Q (up G a (.dN (dput kvs k v)))
        | none => False)
      | _ => False)
    | some (.dK kvs) => (match i.kK with
      | some k => kvs.length < sizeLine ∧ Q (up G a (.dK (dput kvs k v)))
      | none => False)
    | _ => False)
  | _ => False
theorem z4i (hu : X.A.units + 64 < cLine) : PSet X (zy9 X.ml dSet) := by
  intro pins s σ H o i v ov iv u Q I ro ri rv ⟨do_, di, dv, G, P, hr, q1, q2, q3, t, k⟩
  cases do_ with
  | ref a =>
    rw [VR] at q1
    subst q1
    cases (show ov = Value.ref a from ro)
    cases hG : G a with
    | none =>
      have : False := by simpa [dSet, hG] using t
      exact this.elim
    | some ob =>
      cases ob with
      | rw _ _ _ =>
        have : False := by simpa [dSet, hG] using t
        exact this.elim
      | ins C fs =>
        have : False := by simpa [dSet, hG] using t
        exact this.elim
      | lst ds =>
        cases di with
        | int kk =>
          rw [VR] at q2; subst q2
          obtain ⟨vs, hv, r⟩ := hr a _ hG
          cases hj : ixN ds.length kk with
          | none =>
            have : False := by simpa [dSet, hG, hj] using t
            exact this.elim
          | some j =>
            have t : P (up G a (.lst (ds.set j dv))) := by simpa [dSet, hG, hj] using t
            have x : Ext H G (upd H a (.lst (vs.set j v))) (up G a (.lst (ds.set j dv))) := .write hG
            exact set_list pins s σ H (.ref a) _ v _ _ u Q I rfl ri rv ⟨a, vs, kk, j, rfl, rfl, hv, by rw [r.length]; exact hj, k _ _ t x (hr.write hG ⟨_, upd_same, (r.set j q3).ext hr x⟩)⟩
        | _ =>
          have : False := by simpa [dSet, hG] using t
          exact this.elim
      | dK kvs =>
        cases ek : di.kK with
        | none =>
          have : False := by simpa [dSet, hG, ek] using t
          exact this.elim
        | some kk =>
          have t : kvs.length < sizeLine ∧ P (up G a (.dK (dput kvs kk dv))) := by simpa [dSet, hG, ek] using t
          obtain ⟨ws, hw, hks, r⟩ := hr a _ hG
          have e := z3b q2 ek
          subst e
          have x : Ext H G (upd H a (.dK (putK ws kk v))) (up G a (.dK (dput kvs kk dv))) := .write hG
          obtain ⟨p1, p2⟩ := z9w kk q3 hks r
          have hl : ws.length < sizeLine := by
            have := congrArg List.length hks
            rw [List.length_map, List.length_map] at this
            rw [this]; exact t.1
          exact d_setItem (by omega) I (.inl ⟨ws, kk, hw, rfl, hl, rfl⟩) ri rv fun s' I' => ⟨_, I', k _ _ t.2 x (hr.write hG ⟨_, upd_same, p1, p2.ext hr x⟩)⟩
      | dN kvs =>
        cases di with
        | nd kd ks =>
          cases kd with
          | tup =>
            cases ek : D.key (.nd .tup ks) with
            | none =>
              have : False := by simpa [dSet, hG, ek] using t
              exact this.elim
            | some kk =>
              have t : (kk.depth ≤ 8 ∧ kvs.length < sizeLine) ∧ P (up G a (.dN (dput kvs kk dv))) := by simpa [dSet, hG, ek] using t
              obtain ⟨⟨h8, hl⟩, t⟩ := t
              have ka := zu0 q2 ek
              rw [VR] at q2
              obtain ⟨b, vs, rfl, hb, rb⟩ := q2
              cases (show iv = Value.ref b from ri)
              obtain ⟨ws, dn, vr⟩ := hr a _ hG
              obtain ⟨xs, es, ep, h1, h2, h3, h4, h5, h6, h7, h9, h10⟩ := DnAt.of I dn
              refine wpAny_setItem_heap (hsz := by have := congrArg List.length h6; rw [List.length_map] at this; rw [this]; exact h7) (zsr hu) ⟨zji I ka rfl, h8⟩ h4 fun h' hm' hs => ?_
              obtain ⟨H', I', x, r'⟩ := z9v (t' := s.toks + (nestedKind X.prog X.w).draws kk) I hr hG h1 h5 h4 h6 h9 h10 vr ka h8 q3 rv hl hm' hs
              exact ⟨H', I', k _ _ t x r'⟩
          | _ =>
            have : False := by simpa [dSet, hG] using t
            exact this.elim
        | _ =>
          have : False := by simpa [dSet, hG] using t
          exact this.elim
  | _ => exact t.elim
def zp3 (To Ti : DTE) (r : DSet) : DTG := fun v η G Q => To η G fun o G1 => Ti η G1 fun i G2 => r o i v G2 fun G3 => Q η G3
theorem z3w [Bs] {o i : Expr} {To Ti : DTE} {r : DSet} {pos : Pos} (ho : PED X o To) (hi : PED X i Ti) (hs : PSet X (zy9 X.ml r))
    (ha : ∀ v, assign (.Subscript o i pos) X.env v = (do
      let ov ← holding [v] (eval o X.env)
      let iv ← holding [v, ov] (eval i X.env)
      standAt pos
      holding [v, ov, iv] (setItem ov iv v)
      release [v, ov, iv] []) := by intro _; rfl) : PGD X (.Subscript o i pos) [] (zp3 To Ti r) :=
  PG.impI (pg_sub ho hi hs ha) fun _ _ σ H v Q _ ⟨d, η, G, P, q, hs', hr, t, k⟩ =>
    ⟨η, G, _, hs', hr, t, fun d1 G1 v1 H1 p1 x1 r1 q1 => ⟨η, G1, _, hs'.ext hr x1, r1, p1, fun d2 G2 v2 H2 p2 x2 r2 q2 =>
      ⟨d1, d2, d, G2, _, r2, q1.ext r1 x2, q2, (q.ext hr x1).ext r1 x2, p2, fun G3 H3 p3 x3 r3 => k η G3 σ H3 p3 ((x1.trans x2).trans x3) (hs'.ext hr ((x1.trans x2).trans x3)) r3 rfl⟩⟩⟩
abbrev IxD (X : Cx) (r : DR2) : Prop := IxR X (zta X.ml r)
/-- the item at a place -/
def atD (ds : List D) (y : D) (Q : D → Prop) : Prop := match y with
  | .int i => (match atI ds i with
    | some d => Q d
    | none => False)
  | _ => False
def dIx : DR2 := fun x y G Q => match der x G with
  | .nd .lst ds => atD ds y fun d => Q d G
  | .nd .scr ds => atD ds y fun d => Q d G
  | .nd .tup ds => atD ds y fun d => Q d G
  | _ => match dicN x G with
    | some kvs => (match y with
      | .nd .tup ks => (match D.key (.nd .tup ks) with
        | some k => k.depth ≤ 8 ∧ (match dval kvs k with
          | some d => Q d G
          | none => False)
        | none => False)
      | _ => False)
    | none => match dicK x G with
      | some kvs => (match y.kK with
        | some k => (match dval kvs k with
          | some d => Q d G
          | none => False)
        | none => False)
      | none => False
theorem z27 {K : Ml} {H : Hp} {G : DHp} {ds : List D} {vs : List V} {i : Int} {d : D} (r : VRs K H G ds vs) (e : atI ds i = some d) : ∃ v, atI vs i = some v ∧ VR K H G d v := by
  unfold atI at e ⊢
  rw [r.length]
  cases h : ixN ds.length i with
  | none => rw [h] at e; cases e
  | some j =>
    rw [h] at e
    obtain ⟨v, e1, q⟩ := r.get (show ds[j]? = some d from e)
    exact ⟨v, e1, q⟩
theorem zrv {K : Ml} {H : Hp} {G : DHp} {P : D → DHp → Prop} {Q : VK} {d : D} {v : V} (k : ∀ d G' v H', P d G' → Ext H G H' G' → HR K H' G' → VR K H' G' d v → Q v H') (hr : HR K H G) (p : P d G) (q : VR K H G d v) : Q v H := k d G v H p (.refl _ _) hr q
theorem ixd (hu : X.A.units + 64 < cLine) : IxD X dIx := by
  intro value slice pins s σ H x y v u Q I rx ry ⟨dx, dy, G, P, hr, q1, q2, t, k⟩ hs
  have doL : ∀ (a : Addr) (ds : List D) (vs : List V), x = .ref a → SqL X.K H a vs → VRs X.ml H G ds vs → (atD ds dy fun d => P d G) → wpAny (model X.prog X.w) X.A (subscriptTail value slice v u) (EP X pins σ Q) X.xe s := by
    intro a ds vs e hq r t
    cases dy with
    | int i =>
      rw [VR] at q2; subst q2
      cases ea : atI ds i with
      | none =>
        have : False := by simpa [atD, ea] using t
        exact this.elim
      | some d =>
        have t : P d G := by simpa [atD, ea] using t
        obtain ⟨z, e2, q⟩ := z27 r ea
        exact ix_list value slice pins s σ H x _ v u Q I rx ry ⟨a, vs, i, z, e, rfl, hq, e2, zrv k hr t q⟩ hs
    | _ => exact t.elim
  unfold dIx at t
  split at t
  · rename_i ds e
    obtain ⟨a, vs, e1, h1, r1⟩ := zlz hr q1 e
    exact doL a ds vs e1 (.inl (.inl h1)) r1 t
  · rename_i ds e
    have e := zmg e (fun _ h => nomatch h)
    rw [e, VR] at q1
    obtain ⟨a, vs, e1, h1, r1⟩ := q1
    exact doL a ds vs e1 (zdt h1 (.inr rfl)) r1 t
  · rename_i ds e
    have e := zmg e (fun _ h => nomatch h)
    rw [e, VR] at q1
    obtain ⟨a, vs, e1, h1, r1⟩ := q1
    cases dy with
    | int i =>
      rw [VR] at q2; subst q2
      cases ea : atI ds i with
      | none =>
        have : False := by simpa [atD, ea] using t
        exact this.elim
      | some d =>
        have t : P d G := by simpa [atD, ea] using t
        obtain ⟨z, e2, q⟩ := z27 r1 ea
        exact ix_tup value slice pins s σ H x _ v u Q I rx ry ⟨a, vs, i, z, e1, rfl, h1, e2, zrv k hr t q⟩ hs
    | _ => exact t.elim
  · split at t
    · rename_i kvs e
      cases dy with
      | nd kd ds =>
        cases kd with
        | tup =>
          cases ek : D.key (.nd .tup ds) with
          | none =>
            have : False := by simpa [ek] using t
            exact this.elim
          | some kk =>
            simp only [ek] at t
            obtain ⟨h8, t⟩ := t
            have ka := zu0 q2 ek
            obtain ⟨a, ws, rfl, dn, vr⟩ := zsl hr q1 e
            obtain ⟨xs, es, ep, h1, h2, h3, h4, h5, h6, h7, h9, h10⟩ := DnAt.of I dn
            rw [VR] at q2
            obtain ⟨b, vs, rfl, hb, rb⟩ := q2
            cases (show v = Value.ref a from rx)
            cases (show u = Value.ref b from ry)
            rcases zmw (K := Unit) (k := kk) h10 kvs H G X.ml h6 vr with ⟨e1, e2⟩ | ⟨d, w, p, e1, e2, rw', qw⟩
            · rw [e1] at t; exact t.elim
            · rw [e1] at t
              exact tail_any h4.typeIs PySem.F.slot_dict_getitem.lookup (wpAny_getItem_heap (zsr hu) ⟨zji I ka rfl, h8⟩ h4 e2 ⟨w, H, I.tok _, rw', zrv k hr t qw⟩) hs
        | _ => exact t.elim
      | _ => exact t.elim
    · split at t
      · rename_i kvs e
        cases ek : dy.kK with
        | none => rw [ek] at t; exact t.elim
        | some kk =>
          rw [ek] at t
          simp only at t
          obtain ⟨a, ws, rfl, rd, e1, vr⟩ := zsz hr q1 e
          cases (show v = Value.ref a from rx)
          have ex := z3b q2 ek
          subst ex
          rcases zse kk e1 vr with ⟨e2, e3⟩ | ⟨d, w, e2, e3, qw⟩
          · rw [e2] at t; exact t.elim
          · rw [e2] at t
            have g : DGet H a (kV kk) (some w) := .inl ⟨ws, kk, rd, rfl, e3.symm⟩
            exact tail_any (dict_typeIs I g) PySem.F.slot_dict_getitem.lookup (d_getItem (by omega) I g ry fun w' s' I' rw' => ⟨w, H, I', rw', zrv k hr t qw⟩) hs
      · exact t.elim
theorem zap [Bs] {a b : Expr} {pos : Pos} {r : DR2} {Ta Tb : DTE} (hr : IxD X r) (ha : PED X a Ta) (hb : PED X b Tb) (hs : PlainIx b := by intro _ _; rfl) : PED X (.Subscript a b pos) (dOp r Ta Tb) :=
  PE.impI (pe_ix hr ha hb hs) fun _ _ _ _ _ _ h => zw5 h
abbrev DTO := DSt → DHp → (Option Int → DHp → Prop) → Prop
def zabf [Bs] (K : Ml) (T : DTO) : TO := fun σ H Q => ∃ η G P, SR K H G σ η ∧ HR K H G ∧ T η G P ∧ ∀ o G' H', P o G' → Ext H G H' G' → HR K H' G' → Q o H'
abbrev POD [Bs] (X : Cx) (e : Option Expr) (T : DTO) : Prop := PO X e (zabf X.ml T)
theorem PO.impI {e : Option Expr} {t t' : TO} (h : PO X e t) (i : ∀ pins s σ H Q, Inv X pins σ H s → t' σ H Q → t σ H Q) : PO X e t' := ⟨fun pins s σ H Q I q => h.run pins s σ H Q I (i _ _ _ _ _ I q)⟩
def zhs : DTO := fun _ G Q => Q none G
def zqf (T : DTE) : DTO := fun η G Q => T η G fun d G1 => match d with
  | .int i => Q (some i) G1
  | _ => False
theorem z0e [Bs] : POD X none zhs := PO.impI po_none fun _ _ _ H Q _ ⟨η, G, P, hs, hr, t, k⟩ => k none G H t (.refl _ _) hr
theorem z00 [Bs] {e : Expr} {T : DTE} (h : PED X e T) : POD X (some e) (zqf T) := PO.impI (po_some h) fun _ _ _ H Q _ ⟨η, G, P, hs, hr, t, k⟩ => ⟨η, G, _, hs, hr, t, fun d G1 v H1 p x r q => by
  cases d with
  | int i => rw [VR] at q; exact ⟨i, q, k (some i) G1 H1 p x r⟩
  | _ => exact p.elim⟩
def cutD (xs : List D) (lo hi : Option Int) : List D := (xs.drop (HT.sIx xs.length 0 lo)).take (HT.sIx xs.length xs.length hi - HT.sIx xs.length 0 lo)
theorem z6u {K : Ml} {H : Hp} {G : DHp} {ds : List D} {vs : List V} (r : VRs K H G ds vs) (lo hi : Option Int) : VRs K H G (cutD ds lo hi) (cutV vs lo hi) := by
  unfold cutD cutV
  rw [r.length]
  exact (r.drop _).take _
abbrev DSl := D → Option Int → Option Int → DHp → DVK → Prop
def z6d (K : Ml) (r : DSl) : V → Option Int → Option Int → Hp → VK → Prop := fun x lo hi H Q => ∃ d G P, HR K H G ∧ VR K H G d x ∧ r d lo hi G P ∧ ∀ d G' v H', P d G' → Ext H G H' G' → HR K H' G' → VR K H' G' d v → Q v H'
def dSl : DSl := fun x lo hi G Q => match der x G with
  | .nd .lst ds => Q (.nd .lst (cutD ds lo hi)) G
  | .nd .tup ds => Q (.nd .tup (cutD ds lo hi)) G
  | _ => False
theorem sld : SlR X (z6d X.ml dSl) := by
  intro pins s σ H x v vl vu lo hi sl Q I rx hs pl pu ⟨dx, G, P, hr, q1, t, k⟩
  unfold dSl at t
  split at t
  · rename_i ds e
    obtain ⟨a, vs, e1, h1, r1⟩ := zlz hr q1 e
    refine sl_list pins s σ H x v vl vu lo hi sl Q I rx hs pl pu ⟨a, vs, e1, .inl (.inl h1), fun p hp => ?_⟩
    have x2 : Ext H G (upd H p (.lst (cutV vs lo hi))) G := .laid hp
    refine k _ G _ _ t x2 (hr.laid hp) ?_
    rw [VR]
    exact ⟨p, _, rfl, ⟨hr.free hp, upd_same⟩, (z6u r1 lo hi).ext hr x2⟩
  · rename_i ds e
    have e := zmg e (fun _ h => nomatch h)
    subst e
    rw [VR] at q1
    obtain ⟨a, vs, e1, h1, r1⟩ := q1
    refine sl_tupA pins s σ H x v vl vu lo hi sl Q I rx hs pl pu ⟨a, vs, e1, h1, fun hw => ?_, fun _ p hp => ?_⟩
    · refine k _ G _ H t (.refl _ _) hr ?_
      rw [VR]
      have e2 : cutD ds lo hi = ds := by
        unfold cutD
        have hw' : HT.sIx ds.length 0 lo = 0 ∧ HT.sIx ds.length ds.length hi = ds.length := by rw [← r1.length]; exact hw
        rw [hw'.1, hw'.2, List.drop_zero, Nat.sub_zero, List.take_length]
      rw [e2]
      exact ⟨a, vs, rfl, h1, r1⟩
    · have x2 : Ext H G (upd H p (.tup (cutV vs lo hi))) G := .laid hp
      refine k _ G _ _ t x2 (hr.laid hp) ?_
      rw [VR]
      exact ⟨p, _, rfl, .inl (.inl upd_same), (z6u r1 lo hi).ext hr x2⟩
  · exact t.elim
def zkw (r : DSl) (T : DTE) (Tl Th : DTO) : DTE := fun η G Q => T η G fun x G1 => Tl η G1 fun l G2 => Th η G2 fun u G3 => r x l u G3 Q
theorem zxm [Bs] {e : Expr} {lo hi : Option Expr} {p2 pos : Pos} {r : DSl} {T : DTE} {Tl Th : DTO} (hr : SlR X (z6d X.ml r)) (he : PED X e T) (hl : POD X lo Tl) (hu : POD X hi Th) : PED X (.Subscript e (.Slice lo hi none p2) pos) (zkw r T Tl Th) :=
  PE.impI (pe_slice hr he hl hu) fun _ _ σ H Q _ ⟨η, G, P, hs, hr, t, k⟩ =>
    ⟨η, G, _, hs, hr, t, fun d1 G1 v1 H1 p1 x1 r1 q1 => ⟨η, G1, _, hs.ext hr x1, r1, p1, fun l G2 H2 p2 x2 r2 => ⟨η, G2, _, (hs.ext hr x1).ext r1 x2, r2, p2, fun u G3 H3 p3 x3 r3 =>
      ⟨d1, G3, P, r3, (q1.ext r1 x2).ext r2 x3, p3, fun d G' v H' p x r q => k d G' v H' p (((x1.trans x2).trans x3).trans x) r q⟩⟩⟩⟩
def zla (r r' : DR2) (Ta Tb Tc : DTE) : DTE := fun η G Q => Ta η G fun x G1 => Tb η G1 fun y G2 => r x y G2 fun z G3 => match z with
  | .bl k => if k = true then Tc η G3 fun w G4 => r' y w G4 Q else Q (.bl false) G3
  | _ => False
end
end DL
namespace DL
open PySem PySem.Spec PyProof.Rows L2
section
variable {X : Cx}
theorem z1u [Bs] {r r' : DR2} {Ta Tb Tc : DTE} {K : Ml} {σ : L2.St} {H : Hp} {Q : VK} (h : zqx K (zla r r' Ta Tb Tc) σ H Q) : tChain (zta K r) (zta K r') (zqx K Ta) (zqx K Tb) (zqx K Tc) σ H Q :=
  let ⟨η, G, P, hs, hr, t, k⟩ := h
  ⟨η, G, _, hs, hr, t, fun d1 G1 v1 H1 p1 x1 r1 q1 => ⟨η, G1, _, hs.ext hr x1, r1, p1, fun d2 G2 v2 H2 p2 x2 r2 q2 =>
    ⟨d1, d2, G2, _, r2, q1.ext r1 x2, q2, p2, fun z G3 vz H3 p3 x3 r3 q3 => by
      cases z with
      | bl c =>
        rw [VR] at q3
        refine ⟨c, q3, ?_⟩
        cases c with
        | true =>
          rw [if_pos rfl]
          have p3 : Tc η G3 fun w G4 => r' d2 w G4 P := by simpa using p3
          exact ⟨η, G3, _, ((hs.ext hr x1).ext r1 x2).ext r2 x3, r3, p3, fun dw G4 vw H4 p4 x4 r4 q4 => ⟨d2, dw, G4, P, r4, ((q2.ext r2 x3).ext r3 x4), q4, p4, fun d G' v H' p x r q => k d G' v H' p ((((x1.trans x2).trans x3).trans x4).trans x) r q⟩⟩
        | false =>
          rw [if_neg Bool.false_ne_true]
          have p3 : P (.bl false) G3 := by simpa using p3
          exact k _ G3 _ H3 p3 ((x1.trans x2).trans x3) r3 (by rw [VR])
      | _ => exact p3.elim⟩⟩⟩
theorem z4a [Bs] {a b c : Expr} {op op' : CmpOp} {pos : Pos} {r r' : DR2} {Ta Tb Tc : DTE} (ho : OpD X (compareOp op) r) (ho' : OpD X (compareOp op') r') (ha : PED X a Ta) (hb : PED X b Tb) (hc : PED X c Tc)
    (hm : lastMarks [op, op'] [b, c] = false := by with_unfolding_all rfl) : PED X (.Compare a [op, op'] [b, c] pos) (zla r r' Ta Tb Tc) :=
  PE.impI (pe_chain ho ho' ha hb hc hm) fun _ _ _ _ _ _ h => z1u h
def dNeg (T : DTE) : DTE := fun η G Q => T η G fun d G1 => match d with
  | .int i => Q (.int (-i)) G1
  | _ => False
theorem zkk [Bs] {a : Expr} {pos : Pos} {T : DTE} (h : PED X a T) : PED X (.UnaryOp .USub a pos) (dNeg T) :=
  PE.impI (pe_un un_neg h) fun _ _ σ H Q _ ⟨η, G, P, hs, hr, t, k⟩ => ⟨η, G, _, hs, hr, t, fun d G1 v H1 p x r q => by
    cases d with
    | int i =>
      rw [VR] at q
      exact ⟨i, q, k _ G1 _ H1 p x r (by rw [VR])⟩
    | _ => exact p.elim⟩
/-- what is done to a list of arguments -/
abbrev DRn := List D → DHp → DVK → Prop
def zz8 (K : Ml) (r : DRn) : List V → Hp → VK → Prop := fun vs H Q => ∃ ds G P, VRs K H G ds vs ∧ HR K H G ∧ r ds G P ∧ ∀ d G' v H', P d G' → Ext H G H' G' → HR K H' G' → VR K H' G' d v → Q v H'
abbrev zkv (X : Cx) (f : Value) (r : DRn) : Prop := CallR X f (zz8 X.ml r)
def dCB (r : DRn) (T : DTA) : DTE := fun η G Q => T η G fun ds G1 => r ds G1 Q
theorem zzg [Bs] {r : DRn} {T : DTA} {K : Ml} {σ : L2.St} {H : Hp} {Q : VK} (h : zqx K (dCB r T) σ H Q) : tCB (zz8 K r) (z89 K T) σ H Q :=
  let ⟨η, G, P, hs, hr, t, k⟩ := h
  ⟨η, G, _, hs, hr, t, fun ds G1 vs H1 p1 x1 r1 q1 => ⟨ds, G1, P, q1, r1, p1, fun d G' v H' p x r q => k d G' v H' p (x1.trans x) r q⟩⟩
theorem zp [Bs] {id : String} {x : Str} {p pos : Pos} {e : Expr} {es : List Expr} {r : DRn} {T : DTA} (hc : zkv X (.builtin id) r) (hm : X.mg x = none) (hv : bootBuiltins x = some (.builtin id)) (ha : PAD X (e :: es) T) (hg : Gl X x := by rfl) (hn : x ≠ "__name__" := by decide) (hdb : (x == ("__debug__" : Str)) = false := by decide)
    (he : starEach (e :: es) X.env = (false, eval e X.env) :: starEach es X.env := by rfl) (hpl : (backTo pos (starEach es X.env)).any (·.1) = false := by rfl) : PED X (.Call (.Name x p) (e :: es) [] pos) (dCB r T) :=
  PE.impI (pe_callB hc hg hm hv ha hn hdb he hpl) fun _ _ _ _ _ _ h => zzg h
theorem za9 [Bs] {id : String} {x : Str} {p pos : Pos} {e : Expr} {es : List Expr} {r : DRn} {T : DTA} (hc : zkv X (.type id) r) (hm : X.mg x = none) (hv : bootBuiltins x = some (.type id)) (ha : PAD X (e :: es) T) (hg : Gl X x := by rfl) (hn : x ≠ "__name__" := by decide) (hdb : (x == ("__debug__" : Str)) = false := by decide)
    (he : starEach (e :: es) X.env = (false, eval e X.env) :: starEach es X.env := by rfl) (hpl : (backTo pos (starEach es X.env)).any (·.1) = false := by rfl) : PED X (.Call (.Name x p) (e :: es) [] pos) (dCB r T) :=
  PE.impI (pe_callTy hc hg hm hv ha hn hdb he hpl) fun _ _ _ _ _ _ h => zzg h
theorem z1z : Passes CX0 X fun _ _ _ => False := fun _ _ _ _ _ _ _ h => h.elim
/-- a def of the text keeps the promise sp -/
abbrev FnD (P : Program) (w : World) (K : PySem.W.Frag) (mg : Str → Option Value) (base : Heap) (k : Nat) (f : Addr) (fd : FuncData) (ps : List Str) (sp : DRn) : Prop := FnOk P w K mg base CX0 k f fd ps fun vs H Q _ => zz8 ⟨K, w⟩ sp vs H Q
theorem zl [Bs] {k : Nat} {f : Addr} {fd : FuncData} {ps : List Str} {sp : DRn} {x : Str} {p pos : Pos} {e : Expr} {es : List Expr} {T : DTA} (F : FnD X.prog X.w X.K X.mg X.base k f fd ps sp) (hr : Room k X.A) (hm : X.mg x = some (.ref f)) (hk : PySem.W.keepIn X.K (.ref f) = true) (hb : Binds X.K fd ps [])
    (ha : PAD X (e :: es) T) (hg : Gl X x := by rfl) (hdb : (x == ("__debug__" : Str)) = false := by decide) (he : starEach (e :: es) X.env = (false, eval e X.env) :: starEach es X.env := by rfl) (hpl : (backTo pos (starEach es X.env)).any (·.1) = false := by rfl) :
    PED X (.Call (.Name x p) (e :: es) [] pos) (dCB sp T) :=
  PE.impI (pe_call F hr hg hm hk hb .nil (z1z (X := X)) ha hdb he hpl) fun _ _ _ _ _ _ h => by
    obtain ⟨η, G, P, hs, hr, t, k⟩ := zzg h
    exact ⟨η, G, P, hs, hr, t, fun ds G' vs H' p x r q => by
      show zz8 X.ml sp (vs ++ []) H' _
      rw [List.append_nil]
      exact k ds G' vs H' p x r q⟩
def tyD (T : String) (d : D) (G : DHp) : Prop := match d with
  | .str _ => T = "str"
  | .ref a => (match G a with
    | some (.lst _) => T = "list"
    | some (.dK _) => T = "dict"
    | some (.dN _) => T = "dict"
    | _ => False)
  | .nd .lst _ => T = "list"
  | .nd .scr _ => T = "list"
  | .nd (.dK _) _ => T = "dict"
  | .nd (.dN _) _ => T = "dict"
  | _ => False
theorem z88 {pins : List (Addr × Obj)} {σ : L2.St} {H : Hp} {s : Shared} {a : Addr} {ks : List NestedKey} {vs : List V} (I : Inv X pins σ H s) (h : DnAt X.ml H a ks vs) :
    s.TypeIs (.ref a) "dict" ∧ (∀ b, Value.ref a = .ref b → ∃ ob, s.heap.get? b = some ob ∧ ob.dict = none) ∧ (a == sysModules) = false := by
  obtain ⟨xs, es, ep, h1, h2, h3, h4, h5, _⟩ := DnAt.of I h
  refine ⟨h4.typeIs, fun b q => ?_, h5⟩
  cases q
  obtain ⟨ob, ho, hx, _⟩ := h2
  exact ⟨ob, ho, hx.2.1⟩
theorem z9d {pins : List (Addr × Obj)} {σ : L2.St} {H : Hp} {G : DHp} {s : Shared} {T : String} {d : D} {x : V} {v : Value} (I : Inv X pins σ H s) (hr : HR X.ml H G) (q : VR X.ml H G d x) (r : RelV x v) (ty : tyD T d G) :
    s.TypeIs v T ∧ ∀ a, v = .ref a → ∃ ob, s.heap.get? a = some ob ∧ ob.dict = none := by
  have doL : ∀ (a : Addr) (vs : List V), x = .ref a → SqL X.K H a vs → s.TypeIs v "list" ∧ ∀ a, v = .ref a → ∃ ob, s.heap.get? a = some ob ∧ ob.dict = none := fun a vs e hq => by
    subst e
    exact tyV_is (T := "list") I r (.inl ⟨rfl, vs, hq⟩)
  have doK : ∀ (a : Addr), x = .ref a → IsD H a → s.TypeIs v "dict" ∧ ∀ a, v = .ref a → ∃ ob, s.heap.get? a = some ob ∧ ob.dict = none := fun a e hq => by
    subst e
    cases (show v = Value.ref a from r)
    exact ⟨(isD_at I hq).1, (isD_at I hq).2.1⟩
  have doN : ∀ (a : Addr) (ks : List NestedKey) (vs : List V), x = .ref a → DnAt X.ml H a ks vs → s.TypeIs v "dict" ∧ ∀ a, v = .ref a → ∃ ob, s.heap.get? a = some ob ∧ ob.dict = none := fun a ks vs e hq => by
    subst e
    cases (show v = Value.ref a from r)
    exact ⟨(z88 I hq).1, (z88 I hq).2.1⟩
  cases d with
  | str z =>
    rw [VR] at q; subst q
    cases (show T = "str" from ty)
    exact tyV_is I r (show tyV X.K "str" (.str z) H from rfl)
  | ref a =>
    rw [VR] at q
    cases e : G a with
    | none =>
      have : False := by simpa [tyD, e] using ty
      exact this.elim
    | some o =>
      have u := hr a o e
      cases o with
      | lst ds =>
        have : T = "list" := by simpa [tyD, e] using ty
        subst this
        obtain ⟨vs, z, _⟩ := u
        exact doL a vs q (.inl (.inl z))
      | dK ds =>
        have : T = "dict" := by simpa [tyD, e] using ty
        subst this
        obtain ⟨ws, z, _⟩ := u
        exact doK a q (.inl ⟨ws, .inl z⟩)
      | dN ds =>
        have : T = "dict" := by simpa [tyD, e] using ty
        subst this
        obtain ⟨ws, z, _⟩ := u
        exact doN a _ ws q z
      | rw _ _ _ =>
        have : False := by simpa [tyD, e] using ty
        exact this.elim
      | ins C fs =>
        have : False := by simpa [tyD, e] using ty
        exact this.elim
  | nd k ds =>
    rw [VR] at q
    obtain ⟨a, vs, e, hh, _⟩ := q
    cases k with
    | lst =>
      cases (show T = "list" from ty)
      exact doL a vs e (zdt hh (.inl rfl))
    | scr =>
      cases (show T = "list" from ty)
      exact doL a vs e (zdt hh (.inr rfl))
    | dK ks =>
      cases (show T = "dict" from ty)
      obtain ⟨_, o, z⟩ := hh
      exact doK a e (.inl ⟨_, .inr ⟨o, z⟩⟩)
    | dN ks =>
      cases (show T = "dict" from ty)
      exact doN a ks vs e hh.2
    | _ => exact ty.elim
  | _ => exact ty.elim
abbrev MtD (X : Cx) (id : String) (r : DRn) : Prop := zkv X (.builtin id) r
def dM0 (T : String) (r : DRn) (To : DTE) : DTE := fun η G Q => To η G fun x G1 => tyD T x G1 ∧ r [x] G1 Q
def dM (T : String) (r : DRn) (To : DTE) (Ta : DTA) : DTE := fun η G Q => To η G fun x G1 => tyD T x G1 ∧ Ta η G1 fun ds G2 => r (x :: ds) G2 Q
theorem zit [Bs] {T id : String} {o e : Expr} {es : List Expr} {name : Str} {apos cpos : Pos} {r : DRn} {To : DTE} {Ta : DTA} (pa : PlainAttrs T) (slot : Slot T name id) (hty : typeOf (.builtin id) = pure (.type "method_descriptor")) (hm : MtD X id r) (ho : PED X o To) (ha : PAD X (e :: es) Ta)
    (hbase : attributeBase o name X.env (eval o X.env) = eval o X.env := by rfl)
    (hfew : ((backTo cpos (starEach (e :: es) X.env)).all (fun x => !x.1) && (backToKw cpos (keywordEach [] X.env)).all (fun x => x.1.isSome)
      && decide ((e :: es).length + ([] : List Keyword).length + (if ([] : List Keyword).isEmpty then 0 else 1) < 30)) = true := by rfl)
    (hline : (apos.endLine == cpos.line) = true := by rfl) (hs : starEach (e :: es) X.env = (false, eval e X.env) :: starEach es X.env := by rfl) (hplain : (backTo cpos (starEach es X.env)).any (·.1) = false := by rfl) :
    PED X (.Call (.Attribute o name apos) (e :: es) [] cpos) (dM T r To Ta) := by
  refine ⟨fun pins s σ H Q I ⟨η, G, P, hs', hr, t, k⟩ => ?_⟩
  refine wpAny_Call_method_late hbase hfew hline rfl (thn (ho.run pins s σ H (fun v H1 => ∃ d G1, (tyD T d G1 ∧ Ta η G1 fun ds G2 => r (d :: ds) G2 P) ∧ Ext H G H1 G1 ∧ HR X.ml H1 G1 ∧ VR X.ml H1 G1 d v) I ⟨η, G, _, hs', hr, t, fun d G1 v H1 p x r q => ⟨d, G1, p, x, r, q⟩⟩) fun v s1 ⟨x, H1, I1, r1, d, G1, ⟨ty, p⟩, x1, hr1, q1⟩ => ?_)
  obtain ⟨h1, h2⟩ := z9d I1 hr1 q1 r1 ty
  refine ⟨T, id, pa, slot, hty, h1, h2, ?_⟩
  have hA := ha.run cpos pins s1 σ H1 (fun vs H2 => ∃ ds G2, r (d :: ds) G2 P ∧ Ext H1 G1 H2 G2 ∧ HR X.ml H2 G2 ∧ VRs X.ml H2 G2 ds vs) I1 ⟨η, G1, _, hs'.ext hr x1, hr1, p, fun ds G2 vs H2 p x r q => ⟨ds, G2, p, x, r, q⟩⟩
  rw [hs] at hA ⊢
  refine Calls.callWith_builtin (by show (false || (backTo cpos (starEach es X.env)).any (·.1)) = false; rw [hplain] <;> rfl) (Calls.evalArgs_plain ?_)
  exact thn hA fun us s2 ⟨vs, H2, I2, r2, ds, G2, p2, x2, hr2, q2⟩ => hm pins s2 σ H2 (x :: vs) (v :: us) Q I2 (.cons r1 r2) ⟨d :: ds, G2, P, .cons (q1.ext hr1 x2) q2, hr2, p2, fun d G' v H' p x r q => k d G' v H' p ((x1.trans x2).trans x) r q⟩
theorem zw4 {f : Value} {r : DRn} (h : ∀ pins s σ H G vs us ds P, Inv X pins σ H s → Vals vs us → HR X.ml H G → VRs X.ml H G ds vs → r ds G P →
    wpAny (model X.prog X.w) X.A (call f us) (fun w s' => ∃ z d H' G', Inv X pins σ H' s' ∧ RelV z w ∧ P d G' ∧ Ext H G H' G' ∧ HR X.ml H' G' ∧ VR X.ml H' G' d z) X.xe s) : zkv X f r := by
  intro pins s σ H vs us Q I r ⟨ds, G, P, q, hr, t, k⟩
  exact thn (h pins s σ H G vs us ds P I r hr q t) fun w s' ⟨z, d, H', G', I', rz, p, x', r', q'⟩ => ⟨z, H', I', rz, k d G' z H' p x' r' q'⟩
/-- what is asked of one argument -/
def d1 (g : D → DHp → DVK → Prop) : DRn := fun ds G Q => match ds with
  | [d] => g d G Q
  | _ => False
def d2 (g : D → D → DHp → DVK → Prop) : DRn := fun ds G Q => match ds with
  | [d, e] => g d e G Q
  | _ => False
def d3 (g : D → D → D → DHp → DVK → Prop) : DRn := fun ds G Q => match ds with
  | [d, e, f] => g d e f G Q
  | _ => False
theorem zm0 {f : Value} {g : D → DHp → DVK → Prop} (h : ∀ pins s σ H G x v d P, Inv X pins σ H s → RelV x v → HR X.ml H G → VR X.ml H G d x → g d G P →
    wpAny (model X.prog X.w) X.A (call f [v]) (fun w s' => ∃ z d H' G', Inv X pins σ H' s' ∧ RelV z w ∧ P d G' ∧ Ext H G H' G' ∧ HR X.ml H' G' ∧ VR X.ml H' G' d z) X.xe s) : zkv X f (d1 g) := zw4 fun pins s σ H G vs us ds P I r hr q t => by
  match ds, q, t with
  | [d], q, t =>
    obtain ⟨x, vs, rfl, q1, q2⟩ := q.uncons
    cases q2.nil_of
    obtain ⟨u, rfl, r1⟩ := r.one
    exact h pins s σ H G x u d P I r1 hr q1 t
  | [], _, t => exact t.elim
  | _ :: _ :: _, _, t => exact t.elim
theorem zuw {f : Value} {g : D → D → DHp → DVK → Prop} (h : ∀ pins s σ H G x y v u d e P, Inv X pins σ H s → RelV x v → RelV y u → HR X.ml H G → VR X.ml H G d x → VR X.ml H G e y → g d e G P →
    wpAny (model X.prog X.w) X.A (call f [v, u]) (fun w s' => ∃ z d H' G', Inv X pins σ H' s' ∧ RelV z w ∧ P d G' ∧ Ext H G H' G' ∧ HR X.ml H' G' ∧ VR X.ml H' G' d z) X.xe s) : zkv X f (d2 g) := zw4 fun pins s σ H G vs us ds P I r hr q t => by
  match ds, q, t with
  | [d, e], q, t =>
    obtain ⟨x, vs, rfl, q1, q2⟩ := q.uncons
    obtain ⟨y, vs, rfl, q3, q4⟩ := q2.uncons
    cases q4.nil_of
    obtain ⟨u, v, rfl, r1, r2⟩ := r.two
    exact h pins s σ H G x y u v d e P I r1 r2 hr q1 q3 t
  | [], _, t => exact t.elim
  | [_], _, t => exact t.elim
  | _ :: _ :: _ :: _, _, t => exact t.elim
theorem zaaz : ∀ {x y z : V} {us : List Value}, Vals [x, y, z] us → ∃ u v w, us = [u, v, w] ∧ RelV x u ∧ RelV y v ∧ RelV z w
  | _, _, _, _, .cons r (.cons q (.cons t .nil)) => ⟨_, _, _, rfl, r, q, t⟩
theorem z8z {f : Value} {g : D → D → D → DHp → DVK → Prop} (h : ∀ pins s σ H G x y a v u b d e l P, Inv X pins σ H s → RelV x v → RelV y u → RelV a b → HR X.ml H G → VR X.ml H G d x → VR X.ml H G e y → VR X.ml H G l a → g d e l G P →
    wpAny (model X.prog X.w) X.A (call f [v, u, b]) (fun w s' => ∃ z d H' G', Inv X pins σ H' s' ∧ RelV z w ∧ P d G' ∧ Ext H G H' G' ∧ HR X.ml H' G' ∧ VR X.ml H' G' d z) X.xe s) : zkv X f (d3 g) := zw4 fun pins s σ H G vs us ds P I r hr q t => by
  match ds, q, t with
  | [d, e, l], q, t =>
    obtain ⟨x, vs, rfl, q1, q2⟩ := q.uncons
    obtain ⟨y, vs, rfl, q3, q4⟩ := q2.uncons
    obtain ⟨a, vs, rfl, q5, q6⟩ := q4.uncons
    cases q6.nil_of
    obtain ⟨u, v, w, rfl, r1, r2, r3⟩ := zaaz r
    exact h pins s σ H G x y a u v w d e l P I r1 r2 r3 hr q1 q3 q5 t
  | [], _, t => exact t.elim
  | [_], _, t => exact t.elim
  | [_, _], _, t => exact t.elim
  | _ :: _ :: _ :: _ :: _, _, t => exact t.elim
/-- the list tracked at d -/
def onL (d : D) (G : DHp) (g : Addr → List D → Prop) : Prop := match d with
  | .ref a => (match G a with
    | some (.lst ds) => g a ds
    | _ => False)
  | _ => False
theorem z32 {d : D} {G : DHp} {g : Addr → List D → Prop} (h : onL d G g) : ∃ a ds, d = .ref a ∧ G a = some (.lst ds) ∧ g a ds := by
  cases d with
  | ref a =>
    have h : (match G a with | some (.lst ds) => g a ds | _ => False) := h
    cases e : G a with
    | none => rw [e] at h; exact h.elim
    | some o =>
      rw [e] at h
      cases o with
      | lst ds => exact ⟨a, ds, rfl, e, h⟩
      | _ => exact h.elim
  | _ => exact h.elim
theorem zaaw {a : Addr} {G : DHp} {ds : List D} {g : Addr → List D → Prop} (e : G a = some (.lst ds)) (h : g a ds) : onL (.ref a) G g := by
  show (match G a with | some (.lst ds) => g a ds | _ => False)
  rw [e]; exact h
def zf9 : DRn := d2 fun l y G Q => onL l G fun a ds => ds.length < sizeLine ∧ Q .non (up G a (.lst (ds ++ [y])))
theorem zes : MtD X "list.append" zf9 := zuw fun pins s σ H G x y v u d e P I rx ry hr q1 q2 t => by
  obtain ⟨a, ds, rfl, hG, hz, t⟩ := z32 t
  rw [VR] at q1; subst q1
  obtain ⟨vs, hv, r⟩ := hr a _ hG
  have x1 : Ext H G (upd H a (.lst (vs ++ [y]))) (up G a (.lst (ds ++ [e]))) := .write hG
  exact thn (mt_append pins s σ H _ [y] v [u] (fun z H' => z = .non ∧ H' = upd H a (.lst (vs ++ [y]))) I rx (.cons ry .nil) ⟨a, vs, y, rfl, rfl, hv, by rw [r.length]; exact hz, rfl, rfl⟩) fun w s' ⟨z, H', I', rz, e1, e2⟩ => by
    subst e1 e2
    exact ⟨.non, .non, _, _, I', rz, t, x1, hr.write hG ⟨_, upd_same, (r.append (.cons q2 .nil)).ext hr x1⟩, by rw [VR]⟩
def zxg : DRn := d2 fun l i G Q => onL l G fun a ds => match i with
  | .int i => (match ixN ds.length i with
    | some k => (match ds[k]? with
      | some y => Q y (up G a (.lst (ds.eraseIdx k)))
      | none => False)
    | none => False)
  | _ => False
theorem z06 : MtD X "list.pop" zxg := zuw fun pins s σ H G x y v u d e P I rx ry hr q1 q2 t => by
  obtain ⟨a, ds, rfl, hG, t⟩ := z32 t
  rw [VR] at q1; subst q1
  obtain ⟨vs, hv, r⟩ := hr a _ hG
  cases e with
  | int i =>
    rw [VR] at q2; subst q2
    simp only at t
    cases ek : ixN ds.length i with
    | none => rw [ek] at t; exact t.elim
    | some k =>
      rw [ek] at t
      simp only at t
      cases e : ds[k]? with
      | none => rw [e] at t; exact t.elim
      | some y =>
        rw [e] at t
        obtain ⟨z, e2, q2⟩ := r.get e
        obtain ⟨h1, h2, h3, h4⟩ := ixN_seq ek
        have hlen := (I.lstM hv).1
        have hn := line63
        have hl := r.length
        have x1 : Ext H G (upd H a (.lst (vs.eraseIdx k))) (up G a (.lst (ds.eraseIdx k))) := .write hG
        exact thn (mt_popAt pins s σ H _ [.int i] v [u] (fun z' H' => z' = z ∧ H' = upd H a (.lst (vs.eraseIdx k))) I rx (.cons ry .nil) ⟨a, vs, i, k, z, rfl, rfl, hv, by omega, by omega, by rw [hl]; exact h1, e2, rfl, rfl⟩) fun w s' ⟨z', H', I', rz, e1, e3⟩ => by
          subst e1 e3
          exact ⟨_, y, _, _, I', rz, t, x1, hr.write hG ⟨_, upd_same, (r.eraseIdx k).ext hr x1⟩, q2.ext hr x1⟩
  | _ => exact t.elim
def z6b : DR2 := fun x y G Q => match x, y with
  | .int i, .int j => Q (.int (i + j)) G
  | .str a, .str b => a.length + b.length ≤ sizeLine ∧ Q (.str (a ++ b)) G
  | .ref a, y => onL (.ref a) G fun a ds => (match der y G with
    | .nd .lst es => ds.length + es.length ≤ sizeLine ∧ Q (.ref a) (up G a (.lst (ds ++ es)))
    | _ => False)
  | _, _ => False
theorem z72 : OpD X (inplaceOp .Add) z6b := zjo fun pins s σ H G x y v u dx dy P I rx ry hr q1 q2 t => by
  unfold z6b at t
  split at t
  · rename_i i j
    rw [VR] at q1 q2
    subst q1 q2
    obtain ⟨t1, rfl⟩ := rx
    obtain ⟨t2, rfl⟩ := ry
    exact iadd_int (zak (z := .int (i + j)) (I.tok _) ⟨_, rfl⟩ hr (by rw [VR]) t)
  · rename_i i j
    rw [VR] at q1 q2
    subst q1 q2
    exact thn (iop_add_str pins s σ H _ _ v u (fun z H' => z = .str (i ++ j) ∧ H' = H) I rx ry ⟨i, j, rfl, rfl, t.1, rfl, rfl⟩) fun w s' ⟨z, H', I', rz, e1, e2⟩ => by
      subst e1 e2
      exact zak I' rz hr (by rw [VR]) t.2
  · rename_i a
    obtain ⟨a, ds, e0, hG, t⟩ := z32 t
    cases e0
    rw [VR] at q1; subst q1
    obtain ⟨vs, hv, r⟩ := hr a _ hG
    split at t
    · rename_i es ed
      obtain ⟨b, ws, e1, h1, r1⟩ := zlz hr q2 ed
      subst e1
      have x1 : Ext H G (upd H a (.lst (vs ++ ws))) (up G a (.lst (ds ++ es))) := .write hG
      exact thn (iop_ext pins s σ H _ _ v u (fun z H' => z = .ref a ∧ H' = upd H a (.lst (vs ++ ws))) I rx ry ⟨a, b, vs, ws, rfl, rfl, hv, h1, by rw [r.length, r1.length]; exact t.1, rfl, rfl⟩) fun w s' ⟨z, H', I', rz, e1, e2⟩ => by
        subst e1 e2
        exact ⟨.ref a, .ref a, _, _, I', rz, t.2, x1, hr.write hG ⟨_, upd_same, (r.append r1).ext hr x1⟩, by rw [VR]⟩
    · exact t.elim
  · exact t.elim
def dAug (i : Nat) (T : DTE) (r : DR2) : DTS := fun F η G => match η[i]? with
  | some (some x) => T η G fun y G1 => r x y G1 fun z G2 => F.nx (η.set i (some z)) G2
  | _ => False
/-- o[i], of a list -/
def z2r : DR2 := fun x y G Q => match der x G with
  | .nd .lst ds => atD ds y fun d => Q d G
  | _ => False
theorem z50 : OpD X getItem z2r := zjo fun pins s σ H G x y v u dx dy P I rx ry hr q1 q2 t => by
  unfold z2r at t
  split at t
  · rename_i ds e
    obtain ⟨a, vs, rfl, h1, r1⟩ := zlz hr q1 e
    cases dy with
    | int i =>
      rw [VR] at q2; subst q2
      cases ea : atI ds i with
      | none =>
        have : False := by simpa [atD, ea] using t
        exact this.elim
      | some d =>
        have t : P d G := by simpa [atD, ea] using t
        obtain ⟨z, e2, q⟩ := z27 r1 ea
        cases rx
        obtain ⟨tk, rfl⟩ := ry
        obtain ⟨its, r, pl, hz⟩ := I.list (.inl (.inl h1))
        obtain ⟨j, g1, g2, g3, g4, g5⟩ := atI_get e2
        obtain ⟨w, ew, rw'⟩ := r.get g2
        have hl := r.length
        have fin : ∃ z d H' G', Inv X pins σ H' s ∧ RelV z w ∧ P d G' ∧ Ext H G H' G' ∧ HR X.ml H' G' ∧ VR X.ml H' G' d z := zak I rw' hr q t
        have hn := line63
        by_cases h0 : 0 ≤ i
        · have hj : i.toNat = j := by
            rw [seqIndex_of h0 g5] at g1
            exact Option.some.inj g1
          exact wpAny_getItem_list pl.isList h0 (by omega) (by rw [hj]; simpa using ew) fin
        · have hj : (i + (its.toArray.size : Int)).toNat = j := by
            rw [seqIndex_neg (by omega) g4] at g1
            rw [List.size_toArray, ← hl]
            exact Option.some.inj g1
          exact wpAny_getItem_list_neg pl.isList (by omega) (by rw [List.size_toArray] <;> omega) (by omega) (by rw [hj]; simpa using ew) fin
    | _ => exact t.elim
  · exact t.elim
def zq0 (To Ti Te : DTE) (rg rp : DR2) (rs : DSet) : DTS := fun F η G => To η G fun o G1 => Ti η G1 fun i G2 => rg o i G2 fun x G3 => Te η G3 fun y G4 => rp x y G4 fun z G5 => rs o i z G5 fun G6 => F.nx η G6
theorem z5z [Bs] {o i e : Expr} {To Ti Te : DTE} {rg rp : DR2} {rs : DSet} {op : Operator} {tpos pos : Pos} (ho : PED X o To) (hi : PED X i Ti) (hg : OpD X getItem rg) (he : PED X e Te) (hp : OpD X (inplaceOp op) rp) (hs : PSet X (zy9 X.ml rs))
    (ha : ∀ ov iv new, augStore i ov iv new = (do holding [new, ov, iv] (setItem ov iv new); release [new, ov, iv] []; pure .next) := by intros; rfl) : PSD X (.AugAssign (.Subscript o i tpos) op e pos) (zq0 To Ti Te rg rp rs) :=
  PS.impI (ps_augS ho hi (show PGet X (zta X.ml rg) from hg) he (show PIp X op (zta X.ml rp) from hp) hs ha) fun _ _ σ H E _ ⟨η, G, F, hs, hr, t, k⟩ =>
    ⟨η, G, _, hs, hr, t, fun d1 G1 v1 H1 p1 x1 r1 q1 => ⟨η, G1, _, hs.ext hr x1, r1, p1, fun d2 G2 v2 H2 p2 x2 r2 q2 =>
      ⟨d1, d2, G2, _, r2, q1.ext r1 x2, q2, p2, fun d3 G3 v3 H3 p3 x3 r3 q3 => ⟨η, G3, _, hs.ext hr ((x1.trans x2).trans x3), r3, p3, fun d4 G4 v4 H4 p4 x4 r4 q4 =>
        ⟨d3, d4, G4, _, r4, q3.ext r3 x4, q4, p4, fun d5 G5 v5 H5 p5 x5 r5 q5 => ⟨d1, d2, d5, G5, _, r5, q1.ext r1 (((x2.trans x3).trans x4).trans x5), q2.ext r2 ((x3.trans x4).trans x5), q5, p5, fun G6 H6 p6 x6 r6 =>
          k.nx η G6 σ H6 p6 (((((x1.trans x2).trans x3).trans x4).trans x5).trans x6) (hs.ext hr (((((x1.trans x2).trans x3).trans x4).trans x5).trans x6)) r6⟩⟩⟩⟩⟩⟩
end
end DL
namespace DL
open PySem PySem.Spec PyProof.Rows L2
section
variable {X : Cx}
def sqD (d : D) (G : DHp) : Option (List D) := match der d G with
  | .nd .lst ds => some ds
  | .nd .scr ds => some ds
  | .nd .tup ds => some ds
  | _ => none
/-- .. lists alone -/
def lsD (d : D) (G : DHp) : Option (List D) := match der d G with
  | .nd .lst ds => some ds
  | .nd .scr ds => some ds
  | _ => none
theorem zqj {K : Ml} {H : Hp} {G : DHp} (hr : HR K H G) {d : D} {v : V} {ds : List D} (h : VR K H G d v) (e : lsD d G = some ds) : ∃ a vs, v = .ref a ∧ SqL K.K H a vs ∧ VRs K H G ds vs := by
  unfold lsD at e
  split at e
  · rename_i es e1
    cases e
    obtain ⟨a, vs, rfl, h1, r1⟩ := zlz hr h e1
    exact ⟨a, vs, rfl, .inl (.inl h1), r1⟩
  · rename_i es e1
    cases e
    have e1 := zmg e1 (fun _ h => nomatch h)
    subst e1
    rw [VR] at h
    obtain ⟨a, vs, rfl, h1, r1⟩ := h
    exact ⟨a, vs, rfl, zdt h1 (.inr rfl), r1⟩
  · cases e
theorem z0n {K : Ml} {H : Hp} {G : DHp} (hr : HR K H G) {d : D} {v : V} {ds : List D} (h : VR K H G d v) (e : sqD d G = some ds) : ∃ a vs, v = .ref a ∧ (SqL K.K H a vs ∨ SqT K.K H a vs) ∧ VRs K H G ds vs := by
  unfold sqD at e
  split at e
  · rename_i es e1
    cases e
    obtain ⟨a, vs, rfl, h1, r1⟩ := zlz hr h e1
    exact ⟨a, vs, rfl, .inl (.inl (.inl h1)), r1⟩
  · rename_i es e1
    cases e
    have e1 := zmg e1 (fun _ h => nomatch h)
    subst e1
    rw [VR] at h
    obtain ⟨a, vs, rfl, h1, r1⟩ := h
    exact ⟨a, vs, rfl, .inl (zdt h1 (.inr rfl)), r1⟩
  · rename_i es e1
    cases e
    have e1 := zmg e1 (fun _ h => nomatch h)
    subst e1
    rw [VR] at h
    obtain ⟨a, vs, rfl, h1, r1⟩ := h
    exact ⟨a, vs, rfl, .inr h1, r1⟩
  · cases e
def dLen : DRn := d1 fun d G Q => match sqD d G with
  | some ds => Q (.int ds.length) G
  | none => match dicN d G with
    | some kvs => Q (.int kvs.length) G
    | none => match dicK d G with
      | some kvs => Q (.int kvs.length) G
      | none => match d with
        | .str x => x.length ≤ sizeLine ∧ Q (.int x.length) G
        | _ => False
theorem zhd : zkv X (.builtin "len") dLen := zm0 fun pins s σ H G x v d P I rx hr q1 t => by
  split at t
  · rename_i ds e
    obtain ⟨a, vs, rfl, hq, r⟩ := z0n hr q1 e
    exact thn (call_len_seq pins s σ H [.ref a] [v] (fun z H' => z = .int ds.length ∧ H' = H) I (.cons rx .nil) ⟨a, vs, rfl, hq, by rw [r.length], rfl⟩) fun w s' ⟨z, H', I', rz, e1, e2⟩ => by
      subst e1 e2
      exact zak I' rz hr (by rw [VR]) t
  · split at t
    · rename_i kvs e
      obtain ⟨a, ws, rfl, dn, vr⟩ := zsl hr q1 e
      obtain ⟨xs, es, ep, h1, h2, h3, h4, h5, h6, h7, _⟩ := DnAt.of I dn
      cases (show v = Value.ref a from rx)
      have hl : xs.length = kvs.length := by have := congrArg List.length h6; simpa using this
      have hn := line63
      refine call_len_dictH h5 h4 (by rw [List.length_map] at h7; omega) ?_
      rw [hl]
      exact zak (z := .int kvs.length) (I.tok _) ⟨_, rfl⟩ hr (by rw [VR]) t
    · split at t
      · rename_i kvs e
        obtain ⟨a, ws, rfl, rd, e1, vr⟩ := zsz hr q1 e
        cases (show v = Value.ref a from rx)
        have hl : ws.length = kvs.length := by have := congrArg List.length e1; simpa using this
        refine d_len I rd fun tk s' I' => ?_
        rw [hl]
        exact zak (z := .int kvs.length) I' ⟨_, rfl⟩ hr (by rw [VR]) t
      · split at t
        · rename_i z _ _ _
          rw [VR] at q1; subst q1
          exact thn (call_len_str pins s σ H [.str z] [v] (fun z' H' => z' = .int z.length ∧ H' = H) I (.cons rx .nil) ⟨z, rfl, t.1, rfl, rfl⟩) fun w s' ⟨z', H', I', rz, e1, e2⟩ => by
            subst e1 e2
            exact zak I' rz hr (by rw [VR]) t.2
        · exact t.elim
def dAbs : DRn := d1 fun d G Q => match d with
  | .int i => Q (.int (if i < 0 then -i else i)) G
  | _ => False
theorem zut : zkv X (.builtin "abs") dAbs := zm0 fun pins s σ H G x v d P I rx hr q1 t => by
  cases d with
  | int i =>
    rw [VR] at q1; subst q1
    exact thn (call_abs pins s σ H [.int i] [v] (fun z' H' => z' = .int (if i < 0 then -i else i) ∧ H' = H) I (.cons rx .nil) ⟨i, rfl, rfl, rfl⟩) fun w s' ⟨z', H', I', rz, e1, e2⟩ => by
      subst e1 e2
      exact zak I' rz hr (by rw [VR]) t
  | _ => exact t.elim
def dInt : DRn := d1 fun d G Q => match d with
  | .int i => Q (.int i) G
  | .bl b => Q (.int (if b then 1 else 0)) G
  | _ => False
theorem zr6 : zkv X (.type "int") dInt := zm0 fun pins s σ H G x v d P I rx hr q1 t => by
  cases d with
  | int i =>
    rw [VR] at q1; subst q1
    exact thn (call_int1 pins s σ H [.int i] [v] (fun z' H' => z' = .int i ∧ H' = H) I (.cons rx .nil) (.inl ⟨i, rfl, rfl, rfl⟩)) fun w s' ⟨z', H', I', rz, e1, e2⟩ => by
      subst e1 e2
      exact zak I' rz hr (by rw [VR]) t
  | bl i =>
    rw [VR] at q1; subst q1
    exact thn (call_int1 pins s σ H [.bl i] [v] (fun z' H' => z' = .int (if i then 1 else 0) ∧ H' = H) I (.cons rx .nil) (.inr ⟨i, rfl, rfl, rfl⟩)) fun w s' ⟨z', H', I', rz, e1, e2⟩ => by
      subst e1 e2
      exact zak I' rz hr (by rw [VR]) t
  | _ => exact t.elim
def z1s : DRn := d2 fun d e G Q => match d, e with
  | .int i, .int j => Q (.int (if j > i then j else i)) G
  | _, _ => False
theorem zvk (hc : X.calm = true) : zkv X (.builtin "max") z1s := zuw fun pins s σ H G x y v u d e P I rx ry hr q1 q2 t => by
  split at t
  · rename_i i j
    rw [VR] at q1 q2; subst q1 q2
    exact thn (call_max2 hc pins s σ H [.int i, .int j] [v, u] (fun z' H' => z' = .int (if j > i then j else i) ∧ H' = H) I (.cons rx (.cons ry .nil)) ⟨i, j, rfl, rfl, rfl⟩) fun w s' ⟨z', H', I', rz, e1, e2⟩ => by
      subst e1 e2
      exact zak I' rz hr (by rw [VR]) t
  · exact t.elim
def z7r : DRn := d1 fun d G Q => ∃ ns : List Int, lsD d G = some (ns.map .int) ∧ 0 < ns.length ∧ ∀ m ∈ ns, (∀ y ∈ ns, y ≤ m) → Q (.int m) G
theorem z77 (hc : X.calm = true) : zkv X (.builtin "max") z7r := zm0 fun pins s σ H G x v d P I rx hr q1 ⟨ns, e, hl, t⟩ => by
  obtain ⟨a, vs, rfl, hq, r⟩ := zqj hr q1 e
  have e3 := r.ints; subst e3
  exact thn (cr_max hc pins s σ H [.ref a] [v] (fun z' H' => (∃ m, z' = .int m ∧ m ∈ ns ∧ (∀ y ∈ ns, y ≤ m)) ∧ H' = H) I (.cons rx .nil) ⟨a, ns, rfl, hq, hl, fun m h1 h2 => ⟨⟨m, rfl, h1, h2⟩, rfl⟩⟩) fun w s' ⟨z', H', I', rz, ⟨m, e1, h1, h2⟩, e2⟩ => by
    subst e1 e2
    exact zak I' rz hr (by rw [VR]) (t m h1 h2)
theorem VRs.bls {K : Ml} {H : Hp} {G : DHp} {bs : List Bool} {vs : List V} (h : VRs K H G (bs.map D.bl) vs) : vs = bs.map V.bl :=
  h.map_eq _ _ fun a v q => by rw [VR] at q; exact q
def dAny : DRn := d1 fun d G Q => ∃ bs : List Bool, lsD d G = some (bs.map .bl) ∧ Q (.bl (bs.any id)) G
def dAll : DRn := d1 fun d G Q => ∃ bs : List Bool, lsD d G = some (bs.map .bl) ∧ Q (.bl (bs.all id)) G
theorem z92 (hc : X.calm = true) : zkv X (.builtin "any") dAny := zm0 fun pins s σ H G x v d P I rx hr q1 ⟨ns, e, t⟩ => by
  obtain ⟨a, vs, rfl, hq, r⟩ := zqj hr q1 e
  have e3 := r.bls; subst e3
  exact thn (cr_any hc pins s σ H [.ref a] [v] (fun z' H' => z' = .bl (ns.any id) ∧ H' = H) I (.cons rx .nil) ⟨a, ns, rfl, hq, rfl, rfl⟩) fun w s' ⟨z', H', I', rz, e1, e2⟩ => by
    subst e1 e2
    exact zak I' rz hr (by rw [VR]) t
theorem znq (hc : X.calm = true) : zkv X (.builtin "all") dAll := zm0 fun pins s σ H G x v d P I rx hr q1 ⟨ns, e, t⟩ => by
  obtain ⟨a, vs, rfl, hq, r⟩ := zqj hr q1 e
  have e3 := r.bls; subst e3
  exact thn (cr_all hc pins s σ H [.ref a] [v] (fun z' H' => z' = .bl (ns.all id) ∧ H' = H) I (.cons rx .nil) ⟨a, ns, rfl, hq, rfl, rfl⟩) fun w s' ⟨z', H', I', rz, e1, e2⟩ => by
    subst e1 e2
    exact zak I' rz hr (by rw [VR]) t
def zo1 : DRn := d1 fun d G Q => match sqD d G with
  | some ds => Q (.nd .tup ds) G
  | none => False
theorem znb : zkv X (.type "tuple") zo1 := zm0 fun pins s σ H G x v d P I rx hr q1 t => by
  split at t
  · rename_i ds e
    obtain ⟨a, vs, rfl, hq, r⟩ := z0n hr q1 e
    refine thn (call_tuple_of pins s σ H [.ref a] [v] (fun z H' => Ext H G H' G ∧ HR X.ml H' G ∧ VR X.ml H' G (.nd .tup ds) z) I (.cons rx .nil) ⟨a, vs, rfl, ?_⟩) fun w s' ⟨z, H', I', rz, x', r', q'⟩ => ⟨z, _, H', G, I', rz, t, x', r', q'⟩
    rcases hq with hq | hq
    · refine .inl ⟨hq, fun l hl => ?_⟩
      have x2 : Ext H G (upd H l (.tup vs)) G := .laid hl
      refine ⟨x2, hr.laid hl, ?_⟩
      rw [VR]
      exact ⟨l, vs, rfl, .inl (.inl upd_same), r.ext hr x2⟩
    · refine .inr ⟨hq, .refl _ _, hr, ?_⟩
      rw [VR]
      exact ⟨a, vs, rfl, hq, r⟩
  · exact t.elim
/-- a new list; it is tracked -/
def z7o : DRn := d1 fun d G Q => match sqD d G with
  | some ds => ∀ p, G p = none → Q (.ref p) (up G p (.lst ds))
  | none => False
theorem z7p : zkv X (.type "list") z7o := zm0 fun pins s σ H G x v d P I rx hr q1 t => by
  split at t
  · rename_i ds e
    obtain ⟨a, vs, rfl, hq, r⟩ := z0n hr q1 e
    refine thn (call_list_of pins s σ H [.ref a] [v] (fun z H' => ∃ p, z = .ref p ∧ H p = none ∧ H' = upd H p (.lst vs)) I (.cons rx .nil) ⟨a, vs, rfl, hq, fun l hl => ⟨l, rfl, hl, rfl⟩⟩) fun w s' ⟨z, H', I', rz, p, e1, hp, e2⟩ => ?_
    subst e1 e2
    have x2 : Ext H G (upd H p (.lst vs)) (up G p (.lst ds)) := .new hp
    exact ⟨.ref p, .ref p, _, _, I', rz, t p (hr.free hp), x2, hr.new hp ⟨vs, upd_same, r.ext hr x2⟩, by rw [VR]⟩
  · exact t.elim
theorem z2h {K : Ml} {H : Hp} {G : DHp} : ∀ {ds : List D} {vs : List V} {us : List Value}, VRs K H G ds vs → Vals vs us → PySem.W.EachIs (fun u d => ∃ v, RelV v u ∧ VR K H G d v) us ds
  | [], _, _, h, r => by rw [h.nil_of] at r; cases r; exact .nil
  | d :: ds, _, _, h, r => by
    obtain ⟨v, vs, rfl, q, t⟩ := h.uncons
    cases r with
    | cons r1 r2 => exact .cons ⟨v, r1, q⟩ (z2h t r2)
theorem zsi {K : Ml} {H : Hp} {G : DHp} : ∀ {us : List Value} {ds : List D}, PySem.W.EachIs (fun u d => ∃ v, RelV v u ∧ VR K H G d v) us ds → ∃ vs, Vals vs us ∧ VRs K H G ds vs
  | _, _, .nil => ⟨[], .nil, .nil⟩
  | _, _, .cons ⟨v, r, q⟩ t => by
    obtain ⟨vs, a, b⟩ := zsi t
    exact ⟨v :: vs, .cons r a, .cons q b⟩
theorem zur {pins : List (Addr × Obj)} {σ : L2.St} {H : Hp} {G : DHp} {s : Shared} (I : Inv X pins σ H s) : ∀ {ds : List D} {vs : List V} {us : List Value}, VRs X.ml H G ds vs → Vals vs us → plainDs ds = true → PySem.W.EachIs (fun u d => ∃ as, Reads s.heap u (py d) as) us ds
  | [], _, _, h, r, _ => by rw [h.nil_of] at r; cases r; exact .nil
  | d :: ds, _, _, h, r, p => by
    obtain ⟨v, vs, rfl, q, t⟩ := h.uncons
    rw [plainDs, Bool.and_eq_true] at p
    cases r with
    | cons r1 r2 => exact .cons (Dp.reads I _ _ _ (q.dp p.1) r1) (zur I t r2 p.2)
def srt (ds : List D) : List D := ds.mergeSort (PySem.W.dataLe false py)
/-- a new list; it is tracked -/
def zzw : DRn := d1 fun d G Q => match lsD d G with
  | some ds => (plainDs ds = true ∧ PySem.W.AllAlike (ds.map py) ∧ PySem.W.Sortable (ds.map py) ∧ ∀ d ∈ ds, (py d).depth ≤ 60) ∧ ∀ p, G p = none → Q (.ref p) (up G p (.lst (srt ds)))
  | none => False
theorem z25 (hu : X.A.units + 64 < cLine) : zkv X (.builtin "sorted") zzw := zm0 fun pins s σ H G x v d P I rx hr q1 t => by
  split at t
  · rename_i ds e
    obtain ⟨⟨p1, p2, p3, p4⟩, t⟩ := t
    obtain ⟨a, vs, rfl, hq, r⟩ := zqj hr q1 e
    cases (show v = Value.ref a from rx)
    obtain ⟨its, rv, pl, hz⟩ := I.list hq
    refine PySem.W.sorted_data (R := fun u d => ∃ v, RelV v u ∧ VR X.ml H G d v) (enc := py) (bs := ds) pl.isList (z2h r rv) (zur I r rv p1) p2 p3 (by rw [← r.length]; exact hz) (fun b hb => by have := p4 b hb; omega) fun out ho eo => ?_
    obtain ⟨ws, rw', qs⟩ := zsi eo
    obtain ⟨ep, he'⟩ := PyProof.Rows.sortedAll_at s.heap its out.toArray
    have hp : H (s.heap.objs.size + 1) = none := I.hok.fresh (Nat.le_succ _)
    have x2 : Ext H G (upd H (s.heap.objs.size + 1) (.lst ws)) (up G (s.heap.objs.size + 1) (.lst (srt ds))) := .new hp
    have hlen : ws.length ≤ sizeLine := by rw [rw'.length, ho, ← r.length]; exact hz
    have I' : Inv X pins σ (upd H (s.heap.objs.size + 1) (.lst ws)) { s with heap := PyProof.Rows.sortedAll s.heap its (List.toArray out) } :=
      I.laid (t' := s.toks) (fun _ _ => PyProof.Rows.sortedAll_old) (Nat.le_succ _) ⟨hlen, out, ep, rw', he'⟩
    exact ⟨.ref _, .ref _, _, _, I', rfl, t _ (hr.free hp), x2, hr.new hp ⟨ws, upd_same, qs.ext hr x2⟩, by rw [VR]⟩
  · exact t.elim
def zzd : DRn := d3 fun x y z G Q => match dicN x G with
  | some kvs => (match y with
    | .nd .tup ks => (match D.key (.nd .tup ks) with
      | some k => k.depth ≤ 8 ∧ Q ((dval kvs k).getD z) G
      | none => False)
    | _ => False)
  | none => match dicK x G with
    | some kvs => (match y.kK with
      | some k => Q ((dval kvs k).getD z) G
      | none => False)
    | none => False
theorem zvr (hu : X.A.units + 64 < cLine) : MtD X "dict.get" zzd := z8z fun pins s σ H G x y a v u b dx dy dz P I rx ry rz hr q1 q2 q3 t => by
  split at t
  · rename_i kvs e
    split at t
    · rename_i ks
      split at t
      · rename_i k ek
        obtain ⟨h8, t⟩ := t
        have ka := zu0 q2 ek
        obtain ⟨c, ws, rfl, dn, vr⟩ := zsl hr q1 e
        obtain ⟨xs, es, ep, h1, h2, h3, h4, h5, h6, h7, h9, h10⟩ := DnAt.of I dn
        rw [VR] at q2
        obtain ⟨b', vs, rfl, hb, rb⟩ := q2
        cases (show v = Value.ref c from rx)
        cases (show u = Value.ref b' from ry)
        refine call_meetsIn PySem.F.slot_dict_get h4.typeIs PySem.F.entry_dict_get (PySem.F.args_dict_get_3 _ _ _) (meetsH_dict_get_default (nestedKind X.prog X.w) c b' h5 b) ⟨zsr hu, k, xs, ⟨zji I ka rfl, h8⟩, h4, ?_⟩
        rcases zmw (K := Unit) (k := k) h10 kvs H G X.ml h6 vr with ⟨e1, e2⟩ | ⟨d, w, p, e1, e2, rw', qw⟩
        · rw [e1] at t; rw [e2]
          exact zak (I.tok _) rz hr q3 t
        · rw [e1] at t; rw [e2]
          exact zak (I.tok _) rw' hr qw t
      · exact t.elim
    · exact t.elim
  · split at t
    · rename_i kvs e
      split at t
      · rename_i k ek
        obtain ⟨c, ws, rfl, rd, e1, vr⟩ := zsz hr q1 e
        cases (show v = Value.ref c from rx)
        have ex := z3b q2 ek
        subst ex
        refine d_get2 (by omega) I (.inl ⟨ws, k, rd, rfl, rfl⟩) ry rz fun w' s' I' rw' => ?_
        rcases zse k e1 vr with ⟨e2, e3⟩ | ⟨d, w, e2, e3, qw⟩
        · rw [e2] at t; rw [e3] at rw'
          exact zak I' rw' hr q3 t
        · rw [e2] at t; rw [e3] at rw'
          exact zak I' rw' hr qw t
      · exact t.elim
    · exact t.elim
def z2v : DTE := fun _ G Q => ∀ p, G p = none → Q (.ref p) (up G p (.dN []))
theorem z39 {pins : List (Addr × Obj)} {σ : L2.St} {H : Hp} {s : Shared} (I : Inv X pins σ H s) : Inv X pins σ (upd H s.heap.objs.size (rawO s.heap.objs.size #[] 0)) { s with heap := s.heap.push { cls := .type "dict", data := .dict #[] } } := by
  have e := Heap.get?_push_size s.heap (o := { cls := .type "dict", data := .dict #[] }) rfl
  have hr : (s.heap.push { cls := .type "dict", data := .dict #[] }).DictRaw s.heap.objs.size #[] 0 := ⟨_, e, ⟨rfl, rfl, rfl⟩, rfl⟩
  exact I.laid (t' := s.toks) (fun _ _ q => Heap.get?_push_of_some _ q) (Nat.le_refl _) ⟨hr, ⟨_, e⟩, fun h1 h2 φ k => φ.at k⟩
theorem z9p {pins : List (Addr × Obj)} {σ : L2.St} {H : Hp} {s : Shared} (I : Inv X pins σ H s) : (s.heap.objs.size == sysModules) = false :=
  beq_eq_false_iff_ne.mpr (Ne.symm (Nat.ne_of_lt I.big))
theorem z1m {K : Ml} {H : Hp} {a : Addr} (h : H a = some (rawO a #[] 0)) (hs : (a == sysModules) = false) : DnAt K H a [] [] :=
  ⟨[], #[], 0, h, hs, rfl, rfl, List.nodup_nil, Nat.zero_le _, (fun _ hx => nomatch hx), .nil⟩
theorem z0z [Bs] {pos : Pos} : PED X (.Dict [] [] pos) z2v := ⟨fun pins s σ H Q I ⟨η, G, P, hs, hr, t, k⟩ => by
  have hp : H s.heap.objs.size = none := I.hok.fresh (Nat.le_refl _)
  exact wpAny_Dict_empty ⟨.ref s.heap.objs.size, _, z39 I, rfl, k _ _ _ _ (t _ (hr.free hp)) (.new hp) (hr.new hp ⟨[], z1m upd_same (z9p I), .nil⟩) (by rw [VR])⟩⟩
end
end DL
namespace DL
open PySem PySem.Spec PyProof.Rows L2
/-- the items of a walk over kv -/
def EntV (es : Array DictEntry) (kv : List (V × V)) : Prop := Paired (fun (p : V × V) (e : DictEntry) => RelV p.1 e.key ∧ RelV p.2 e.val) kv es.toList
theorem EntV.size {es : Array DictEntry} {kv : List (V × V)} (h : EntV es kv) : kv.length = es.size := by
  have := Paired.length h
  rw [Array.length_toList] at this
  exact this
theorem EntV.at {es : Array DictEntry} {kv : List (V × V)} (h : EntV es kv) {i : Nat} {p : V × V} (e : kv[i]? = some p) (hi : i < es.size) : RelV p.1 es[i].key ∧ RelV p.2 es[i].val := by
  obtain ⟨b, hb, r⟩ := paired_get h e
  rw [Array.getElem?_toList, Array.getElem?_eq_getElem hi] at hb
  cases hb
  exact r
/-- the walk's own pairs -/
def zxd (K : Ml) (H : Hp) (G : DHp) (ps : List (D × D)) (kv : List (V × V)) : Prop := VRs K H G (ps.map (·.1)) (kv.map (·.1)) ∧ VRs K H G (ps.map (·.2)) (kv.map (·.2))
section
variable {X : Cx}
theorem zxd.get {K : Ml} {H : Hp} {G : DHp} {ps : List (D × D)} {kv : List (V × V)} (h : zxd K H G ps kv) (hl : ps.length = kv.length) {i : Nat} {p : D × D} (e : ps[i]? = some p) : ∃ k v, kv[i]? = some (k, v) ∧ VR K H G p.1 k ∧ VR K H G p.2 v := by
  have hi : i < kv.length := by rw [← hl]; exact (List.getElem?_eq_some_iff.mp e).1
  obtain ⟨k, e1, q1⟩ := h.1.get (i := i) (d := p.1) (by rw [List.getElem?_map, e]; rfl)
  obtain ⟨v, e2, q2⟩ := h.2.get (i := i) (d := p.2) (by rw [List.getElem?_map, e]; rfl)
  rw [List.getElem?_map, List.getElem?_eq_getElem hi] at e1 e2
  cases e1; cases e2
  exact ⟨_, _, List.getElem?_eq_getElem hi, q1, q2⟩
theorem zxd.ext {K : Ml} {H H' : Hp} {G G' : DHp} {ps : List (D × D)} {kv : List (V × V)} (h : zxd K H G ps kv) (hr : HR K H G) (x : Ext H G H' G') : zxd K H' G' ps kv := ⟨h.1.ext hr x, h.2.ext hr x⟩
end
end DL
namespace DL
open PySem PySem.Spec PyProof.Rows L2
end DL
namespace DL
open PySem PySem.Spec PyProof.Rows L2
end DL
namespace DL
open PySem PySem.Spec PyProof.Rows L2
def zav (N : List Str) (ds : List D) : DSt := ds.map some ++ List.replicate (N.length - ds.length) none
theorem SR.st [Bs] {K : Ml} {H : Hp} {G : DHp} {N : List Str} {ds : List D} {vs : List V} (h : VRs K H G ds vs) (x : Ext Bs.H0 Bs.G0 H G) : SR K H G (L2.start N vs) (zav N ds) := by
  refine ⟨?_, fun i d e => ?_, x⟩
  · unfold L2.start zav
    rw [List.length_append, List.length_append, List.length_map, List.length_map, List.length_replicate, List.length_replicate, h.length]
  · unfold zav at e
    by_cases hi : i < ds.length
    · rw [List.getElem?_append_left (by rw [List.length_map]; exact hi), List.getElem?_map] at e
      cases ed : ds[i]? with
      | none => rw [ed] at e; cases e
      | some d' =>
        rw [ed] at e
        simp only [Option.map_some, Option.some.injEq] at e
        subst e
        obtain ⟨v, ev, q⟩ := h.get ed
        refine ⟨v, ?_, q⟩
        unfold L2.start
        rw [List.getElem?_append_left (by rw [List.length_map, h.length]; exact hi), List.getElem?_map, ev]
        rfl
    · rw [List.getElem?_append_right (by rw [List.length_map]; omega), List.getElem?_replicate] at e
      split at e
      · cases e
      · cases e
section
variable {P : Program} {w : World} {K : PySem.W.Frag} {mg : Str → Option Value} {base : Heap}
theorem fn_d {x qual : Str} {st : Stmt} {f : Addr} {fd : FuncData} {N ps : List Str} {k : Nat} {sp : DRn} (F : Fun K x qual st f fd) (S : FnScope N ps (defScope st)) (len : ∀ ds G Q, sp ds G Q → ds.length = ps.length) {T : DTS}
    (hp : ∀ [Bs] (cdv : Value) (A : Around) (outer : List Env) (s : Shared) (H : Hp) (E : XK), Room k (A.deeper (envOfC qual (defScope st) s.heap.objs.size f cdv)) → PSsD (cxOf CX0 P w K mg base N qual (defScope st) f cdv A outer s H E).nox (defBody st) T)
    (hs : ∀ ds G Q, sp ds G Q → T { nx := fun _ G' => Q .non G', rt := Q } (zav N ds) G) : FnD P w K mg base (k + 1) f fd ps sp := by
  refine F.ok S (fun vs H Q E h => ?_) (fun cdv A outer s H vs Q E hr h => ?_)
  · obtain ⟨ds, G, Q', q, _, t, _⟩ := h
    rw [q.length]
    exact len _ _ _ t
  · obtain ⟨ds, G, Q', q, hr', t, k'⟩ := h
    letI : Bs := ⟨H, G⟩
    refine ⟨z1a ⟨K, w⟩ T, hp cdv A outer s H E hr, zav N ds, G, _, .st q (.refl _ _), hr', hs ds G Q' t, ?_⟩
    exact ⟨fun η G' σ H' p x _ r => k' _ _ _ _ p x r (by rw [VR]), fun d G' v H' p x r q => k' _ _ _ _ p x r q, fun _ _ _ _ p => p.elim, fun _ _ _ _ p => p.elim⟩
/-- a promise: the arguments, then what the body leads to -/
def z3c : DRn := d1 fun d G Q => ∃ ns : List Int, d = .nd .scr (ns.map .int) ∧ ns.length ≤ 63 ∧ (∀ a, G a = none) ∧ ∀ G', Q (.bl true) G'
end
theorem Room.u65 {k : Nat} {A : Around} (r : Room k A) : A.units + 65 < cLine := by have := r.un; omega
end DL
namespace DL
open PySem PySem.Spec PyProof.Rows L2
end DL
namespace DL
open PySem PySem.Spec PyProof.Rows L2
abbrev dSub : DR2 := i2 (fun _ _ => True) fun i j => .int (i - j)
abbrev dMul : DR2 := i2 CMul fun i j => .int (i * j)
abbrev zpn : DR2 := i2 CDiv fun i j => .int (i / j)
abbrev dMod : DR2 := i2 (fun _ j => 0 < j) fun i j => .int (i % j)
abbrev dPow : DR2 := i2 CPow fun i j => .int (i ^ j.toNat)
def eR (xs : List Int) : D := .nd .tup (xs.map .int)
def e2 (p : Int × Int) : D := .nd .tup [.int p.1, .int p.2]
def e3 (p : Int × Int × Int) : D := .nd .tup [.int p.1, .int p.2.1, .int p.2.2]
def eL {α : Type} (f : α → D) (xs : List α) : D := .nd .lst (xs.map f)
def eT {α : Type} (f : α → D) (xs : List α) : D := .nd .tup (xs.map f)
mutual
def zbn : D → Bool
  | .non => true
  | .int _ => true
  | .nd .tup ds => cleans ds
  | .nd .lst ds => cleans ds
  | _ => false
def cleans : List D → Bool
  | [] => true
  | d :: ds => zbn d && cleans ds
end
mutual
theorem zhn : ∀ {d : D}, zbn d = true → zcl d = true
  | .non, _ => rfl
  | .int _, _ => rfl
  | .nd .tup ds, h => by rw [zcl]; rw [zbn] at h; exact cleans_plain h
  | .nd .lst ds, h => by rw [zcl]; rw [zbn] at h; exact cleans_plain h
  | .bl _, h => by simp [zbn] at h
  | .str _, h => by simp [zbn] at h
  | .ty _, h => by simp [zbn] at h
  | .ref _, h => by simp [zbn] at h
  | .nd .scr _, h => by simp [zbn] at h
  | .nd (.ins _ _) _, h => by simp [zbn] at h
  | .nd (.dK _) _, h => by simp [zbn] at h
  | .nd (.dN _) _, h => by simp [zbn] at h
theorem cleans_plain : ∀ {ds : List D}, cleans ds = true → plainDs ds = true
  | [], _ => rfl
  | d :: ds, h => by
    rw [cleans, Bool.and_eq_true] at h
    rw [plainDs, zhn h.1, cleans_plain h.2]; rfl
end
mutual
theorem zyc : ∀ {d : D}, zbn d = true → PyData.canLay0 (py d) = true
  | .non, _ => by rw [py, PyData.canLay0]
  | .int _, _ => by rw [py, PyData.canLay0]
  | .nd .tup ds, h => by rw [py, PyData.canLay0]; rw [zbn] at h; exact cleans_lay h
  | .nd .lst ds, h => by rw [py, PyData.canLay0]; rw [zbn] at h; exact cleans_lay h
  | .bl _, h => by simp [zbn] at h
  | .str _, h => by simp [zbn] at h
  | .ty _, h => by simp [zbn] at h
  | .ref _, h => by simp [zbn] at h
  | .nd .scr _, h => by simp [zbn] at h
  | .nd (.ins _ _) _, h => by simp [zbn] at h
  | .nd (.dK _) _, h => by simp [zbn] at h
  | .nd (.dN _) _, h => by simp [zbn] at h
theorem cleans_lay : ∀ {ds : List D}, cleans ds = true → PyData.canLayAll0 (pys ds) = true
  | [], _ => by rw [pys, PyData.canLayAll0]
  | d :: ds, h => by
    rw [cleans, Bool.and_eq_true] at h
    rw [pys, PyData.canLayAll0, zyc h.1, cleans_lay h.2]; rfl
end
mutual
theorem zv8 : ∀ {d e : D}, zbn d = true → zbn e = true → (PyData.eqv (py d) (py e) = true ↔ d = e)
  | .non, .non, _, _ => by simp [py, PyData.eqv]
  | .non, .int _, _, _ => by simp [py, PyData.eqv]
  | .non, .nd .tup _, _, _ => by simp [py, PyData.eqv]
  | .non, .nd .lst _, _, _ => by simp [py, PyData.eqv]
  | .int _, .non, _, _ => by simp [py, PyData.eqv]
  | .int i, .int j, _, _ => by simp [py, PyData.eqv]
  | .int _, .nd .tup _, _, _ => by simp [py, PyData.eqv]
  | .int _, .nd .lst _, _, _ => by simp [py, PyData.eqv]
  | .nd .tup _, .non, _, _ => by simp [py, PyData.eqv]
  | .nd .tup _, .int _, _, _ => by simp [py, PyData.eqv]
  | .nd .tup ds, .nd .tup es, h1, h2 => by
    rw [zbn] at h1 h2
    rw [py, py, PyData.eqv, cleans_eq h1 h2]
    simp
  | .nd .tup _, .nd .lst _, _, _ => by simp [py, PyData.eqv]
  | .nd .lst _, .non, _, _ => by simp [py, PyData.eqv]
  | .nd .lst _, .int _, _, _ => by simp [py, PyData.eqv]
  | .nd .lst _, .nd .tup _, _, _ => by simp [py, PyData.eqv]
  | .nd .lst ds, .nd .lst es, h1, h2 => by
    rw [zbn] at h1 h2
    rw [py, py, PyData.eqv, cleans_eq h1 h2]
    simp
  | .bl _, _, h, _ => by simp [zbn] at h
  | .str _, _, h, _ => by simp [zbn] at h
  | .ty _, _, h, _ => by simp [zbn] at h
  | .ref _, _, h, _ => by simp [zbn] at h
  | .nd .scr _, _, h, _ => by simp [zbn] at h
  | .nd (.ins _ _) _, _, h, _ => by simp [zbn] at h
  | .nd (.dK _) _, _, h, _ => by simp [zbn] at h
  | .nd (.dN _) _, _, h, _ => by simp [zbn] at h
  | _, .bl _, _, h => by simp [zbn] at h
  | _, .str _, _, h => by simp [zbn] at h
  | _, .ty _, _, h => by simp [zbn] at h
  | _, .ref _, _, h => by simp [zbn] at h
  | _, .nd .scr _, _, h => by simp [zbn] at h
  | _, .nd (.ins _ _) _, _, h => by simp [zbn] at h
  | _, .nd (.dK _) _, _, h => by simp [zbn] at h
  | _, .nd (.dN _) _, _, h => by simp [zbn] at h
theorem cleans_eq : ∀ {ds es : List D}, cleans ds = true → cleans es = true → (PyData.eqvAll (pys ds) (pys es) = true ↔ ds = es)
  | [], [], _, _ => by simp [pys, PyData.eqvAll]
  | [], _ :: _, _, _ => by simp [pys, PyData.eqvAll]
  | _ :: _, [], _, _ => by simp [pys, PyData.eqvAll]
  | d :: ds, e :: es, h1, h2 => by
    rw [cleans, Bool.and_eq_true] at h1 h2
    rw [pys, pys, PyData.eqvAll, Bool.and_eq_true, zv8 h1.1 h2.1, cleans_eq h1.2 h2.2]
    simp
end
theorem zuv : ∀ ds : List D, cleans ds = ds.all zbn
  | [] => rfl
  | d :: ds => by rw [cleans, zuv ds]; rfl
theorem zhi {α : Type} {f : α → D} (h : ∀ a, zbn (f a) = true) (xs : List α) : cleans (xs.map f) = true := by
  rw [zuv, List.all_map, List.all_eq_true]
  intro x _; exact h x
theorem zlt {B : Nat} : ∀ {ds : List D}, (∀ d ∈ ds, (py d).depth ≤ B) → PyData.depthAll (pys ds) ≤ B
  | [], _ => by rw [pys, PyData.depthAll]; exact Nat.zero_le _
  | d :: ds, h => by
    rw [pys, PyData.depthAll]
    have h1 := h d (by simp)
    have h2 := zlt (B := B) (ds := ds) fun e he => h e (by simp [he])
    omega
theorem zxk {B : Nat} {ds : List D} (h : ∀ d ∈ ds, (py d).depth ≤ B) : (py (.nd .lst ds)).depth ≤ B + 1 := by
  rw [py, PyData.depth]; have := zlt h; omega
theorem zou {B : Nat} {ds : List D} (h : ∀ d ∈ ds, (py d).depth ≤ B) : (py (.nd .tup ds)).depth ≤ B + 1 := by
  rw [py, PyData.depth]; have := zlt h; omega
theorem zev (i : Int) : (py (.int i)).depth = 0 := by rw [py, PyData.depth]
theorem zow {d : D} (h : zbn d = true) (h2 : (py d).depth ≤ 64) : SeqAt.shaped (py d) = true := by
  unfold SeqAt.shaped
  rw [zyc h, decide_eq_true h2]; rfl
theorem zyi (i : Int) : zbn (.int i) = true := rfl
theorem zle (p : Int × Int) : zbn (e2 p) = true := rfl
theorem zwv (p : Int × Int × Int) : zbn (e3 p) = true := rfl
theorem z4o {α : Type} {f : α → D} (h : ∀ a, zbn (f a) = true) (xs : List α) : zbn (eL f xs) = true := by
  unfold eL; rw [zbn]; exact zhi h xs
theorem zru {α : Type} {f : α → D} (h : ∀ a, zbn (f a) = true) (xs : List α) : zbn (eT f xs) = true := by
  unfold eT; rw [zbn]; exact zhi h xs
theorem zlr (p : Int × Int) : (py (e2 p)).depth ≤ 1 := zou (B := 0) fun d hd => by
  simp at hd; rcases hd with rfl | rfl <;> exact Nat.le_of_eq (zev _)
theorem zrl (p : Int × Int × Int) : (py (e3 p)).depth ≤ 1 := zou (B := 0) fun d hd => by
  simp at hd; rcases hd with rfl | rfl | rfl <;> exact Nat.le_of_eq (zev _)
theorem zo5 {α : Type} {f : α → D} {B : Nat} (h : ∀ a, (py (f a)).depth ≤ B) (xs : List α) : (py (eL f xs)).depth ≤ B + 1 := zxk fun d hd => by
  obtain ⟨a, _, rfl⟩ := List.mem_map.mp hd; exact h a
theorem zrg {α : Type} {f : α → D} {B : Nat} (h : ∀ a, (py (f a)).depth ≤ B) (xs : List α) : (py (eT f xs)).depth ≤ B + 1 := zou fun d hd => by
  obtain ⟨a, _, rfl⟩ := List.mem_map.mp hd; exact h a
theorem z6m {a b : Int × Int} : e2 a = e2 b ↔ a = b := by
  constructor
  · intro h; obtain ⟨a1, a2⟩ := a; obtain ⟨b1, b2⟩ := b
    simp [e2] at h; simp [h]
  · intro h; rw [h]
theorem zaap {a b : Int × Int × Int} : e3 a = e3 b ↔ a = b := by
  constructor
  · intro h; obtain ⟨a1, a2, a3⟩ := a; obtain ⟨b1, b2, b3⟩ := b
    simp [e3] at h; simp [h]
  · intro h; rw [h]
theorem z22 {α : Type} {f : α → D} (h : ∀ {a b}, f a = f b ↔ a = b) : ∀ {xs ys : List α}, xs.map f = ys.map f ↔ xs = ys
  | [], [] => by simp
  | [], _ :: _ => by simp
  | _ :: _, [] => by simp
  | x :: xs, y :: ys => by simp [h, z22 h (xs := xs) (ys := ys)]
theorem z9o {α : Type} {f : α → D} (h : ∀ {a b}, f a = f b ↔ a = b) {xs ys : List α} : eT f xs = eT f ys ↔ xs = ys := by
  unfold eT
  constructor
  · intro e; exact (z22 h).mp (D.nd.inj e).2
  · intro e; rw [e]
theorem ztb {d e : D} {G : DHp} {Q : DVK} (h1 : zbn (der d G) = true) (h2 : zbn (der e G) = true) (d1 : (py (der d G)).depth ≤ 64) (d2 : (py (der e G)).depth ≤ 64) (b : Bool) (hb : b = true ↔ der d G = der e G) (h : Q (.bl b) G) : dEq d e G Q := by
  refine ⟨⟨zhn h1, zhn h2, zow h1 d1, zow h2 d2⟩, ?_⟩
  have : PyData.eqv (py (der d G)) (py (der e G)) = b := by
    rw [Bool.eq_iff_iff, zv8 h1 h2]; exact hb.symm
  rw [this]; exact h
theorem zyv {d e : D} {G : DHp} {Q : DVK} (h1 : zbn (der d G) = true) (h2 : zbn (der e G) = true) (d1 : (py (der d G)).depth ≤ 64) (d2 : (py (der e G)).depth ≤ 64) (b : Bool) (hb : b = true ↔ der d G ≠ der e G) (h : Q (.bl b) G) : dNe d e G Q := by
  refine ⟨⟨zhn h1, zhn h2, zow h1 d1, zow h2 d2⟩, ?_⟩
  have : (!PyData.eqv (py (der d G)) (py (der e G))) = b := by
    rw [Bool.eq_iff_iff, Bool.not_eq_true', hb, ← Bool.not_eq_true, zv8 h1 h2]
  rw [this]; exact h
/-- order of ints -/
theorem z8a {g : PyData → PyData → Bool} {i j : Int} {G : DHp} {Q : DVK} (h : Q (.bl (g (.int i) (.int j))) G) : dOrd g (.int i) (.int j) G Q :=
  ⟨⟨rfl, rfl, by rw [py, py]; simp [PySem.W.alike], by rw [py]; exact (nomatch ·), by rw [zev]; exact Nat.zero_le _⟩, by rw [py, py]; exact h⟩
theorem z45 {i j : Int} : PySem.W.dataLt (.int i) (.int j) = decide (i < j) := PySem.W.dataLt_int i j
theorem zrn {g : PyData → PyData → Bool} {i j : Int} {G : DHp} {Q : DVK} : dOrd g (.int i) (.int j) G Q = Q (.bl (g (.int i) (.int j))) G := propext ⟨fun h => by
  have h := h.2
  rwa [py, py] at h, z8a⟩
theorem zu3 {i j : Int} : (!decide (j < i)) = decide (i ≤ j) := by rw [← decide_not]; exact decide_eq_decide.mpr (by omega)
theorem znv {i j : Int} {G : DHp} {Q : DVK} : dLt (.int i) (.int j) G Q = Q (.bl (decide (i < j))) G := by
  show dOrd _ _ _ _ _ = _
  rw [zrn, z45]
theorem znr {i j : Int} {G : DHp} {Q : DVK} : dLe (.int i) (.int j) G Q = Q (.bl (decide (i ≤ j))) G := by
  show dOrd _ _ _ _ _ = _
  rw [zrn]
  show Q (.bl (!PySem.W.dataLt (.int j) (.int i))) G = _
  rw [z45, zu3]
theorem znm {i j : Int} {G : DHp} {Q : DVK} : dGt (.int i) (.int j) G Q = Q (.bl (decide (j < i))) G := by
  show dOrd _ _ _ _ _ = _
  rw [zrn]
  show Q (.bl (PySem.W.dataLt (.int j) (.int i))) G = _
  rw [z45]
theorem znp {i j : Int} {G : DHp} {Q : DVK} : dGe (.int i) (.int j) G Q = Q (.bl (decide (j ≤ i))) G := by
  show dOrd _ _ _ _ _ = _
  rw [zrn]
  show Q (.bl (!PySem.W.dataLt (.int i) (.int j))) G = _
  rw [z45, zu3]
theorem zkj {i j : Int} {G : DHp} {Q : DVK} : dEq (.int i) (.int j) G Q = Q (.bl (decide (i = j))) G := propext ⟨fun h => by
  have h := h.2
  rwa [show PyData.eqv (py (der (.int i) G)) (py (der (.int j) G)) = decide (i = j) by
    show PyData.eqv (py (.int i)) (py (.int j)) = _
    rw [py, py, PyData.eqv]; rfl] at h, fun h => ztb rfl rfl (by show (py (.int i)).depth ≤ 64; rw [zev]; decide) (by show (py (.int j)).depth ≤ 64; rw [zev]; decide) _ (by
    show _ ↔ D.int i = D.int j
    simp) h⟩
theorem zkf {i j : Int} {G : DHp} {Q : DVK} : dNe (.int i) (.int j) G Q = Q (.bl (!decide (i = j))) G := propext ⟨fun h => by
  have h := h.2
  rwa [show PyData.eqv (py (der (.int i) G)) (py (der (.int j) G)) = decide (i = j) by
    show PyData.eqv (py (.int i)) (py (.int j)) = _
    rw [py, py, PyData.eqv]; rfl] at h, fun h => zyv rfl rfl (by show (py (.int i)).depth ≤ 64; rw [zev]; decide) (by show (py (.int j)).depth ≤ 64; rw [zev]; decide) _ (by
    show _ ↔ D.int i ≠ D.int j
    simp) h⟩
theorem zhw {i j : Int} {G : DHp} {Q : DVK} : dAdd (.int i) (.int j) G Q = Q (.int (i + j)) G := rfl
theorem zf1 {i j : Int} {G : DHp} {Q : DVK} : z6b (.int i) (.int j) G Q = Q (.int (i + j)) G := rfl
theorem z31 {i j : Int} (h : -1000000 ≤ i ∧ i ≤ 1000000) : CMul i j := .inl ⟨by omega, by omega⟩
theorem zcq {α : Type} {f : α → D} {xs : List α} {i : Nat} {d : D} (h : (xs.map f)[i]? = some d) : ∃ x, xs[i]? = some x ∧ d = f x := by
  rw [List.getElem?_map] at h
  cases e : xs[i]? with
  | none => rw [e] at h; cases h
  | some x => rw [e] at h; exact ⟨x, rfl, (Option.some.inj h).symm⟩
end DL
namespace DL
open PySem PySem.Spec PyProof.Rows L2
theorem zb0 {n : Nat} (h : n ≤ 1000000) : n < sizeLine := by rw [sizeLine_eq]; omega
theorem zll {xs : List D} {p : Addr} {y : D} {G : DHp} {Q : DVK} (e : G p = some (.lst xs)) (hl : xs.length < sizeLine) (q : Q .non (up G p (.lst (xs ++ [y])))) : tyD "list" (.ref p) G ∧ zf9 [.ref p, y] G Q := by
  refine ⟨by simp only [tyD, e], ?_⟩
  show onL (.ref p) G fun a ds => ds.length < sizeLine ∧ Q .non (up G a (.lst (ds ++ [y])))
  exact zaaw e ⟨hl, q⟩
theorem mem_range {lo hi x : Int} : x ∈ za5 lo hi ↔ lo ≤ x ∧ x < hi := by
  unfold za5
  rw [List.mem_map]
  constructor
  · rintro ⟨k, hk, rfl⟩
    rw [List.mem_range] at hk
    omega
  · rintro ⟨h1, h2⟩
    exact ⟨(x - lo).toNat, by rw [List.mem_range]; omega, by omega⟩
theorem za1 (lo hi : Int) : (za5 lo hi).length = (hi - lo).toNat := by
  unfold za5; rw [List.length_map, List.length_range]
theorem zoa {ds : List D} {i : Int} {d : D} {Q : D → Prop} (h0 : 0 ≤ i) (e : ds[i.toNat]? = some d) (q : Q d) : atD ds (.int i) Q := by
  have h : atI ds i = some d := by
    obtain ⟨k, rfl⟩ := Int.eq_ofNat_of_zero_le h0
    exact atI_nat (by simpa using e)
  show (match atI ds i with | some d => Q d | none => False)
  rw [h]; exact q
section
variable {α β κ : Type} [DecidableEq α] [DecidableEq κ]
def aget (kvs : List (α × β)) (a : α) : Option β := (kvs.find? fun p => decide (p.1 = a)).map (·.2)
def aput (kvs : List (α × β)) (a : α) (b : β) : List (α × β) := if kvs.any fun p => decide (p.1 = a) then kvs.map fun p => if p.1 = a then (p.1, b) else p else kvs ++ [(a, b)]
def enc (k : α → κ) (f : β → D) (kvs : List (α × β)) : List (κ × D) := kvs.map fun p => (k p.1, f p.2)
theorem z5q {k : α → κ} {f : β → D} (hk : ∀ {a b}, k a = k b ↔ a = b) (kvs : List (α × β)) (a : α) : dval (enc k f kvs) (k a) = (aget kvs a).map f := by
  unfold dval aget enc
  induction kvs with
  | nil => rfl
  | cons p kvs ih =>
    by_cases e : p.1 = a
    · simp [e]
    · simpa [e, hk] using ih
theorem z7v {k : α → κ} {f : β → D} (hk : ∀ {a b}, k a = k b ↔ a = b) (kvs : List (α × β)) (a : α) : ((enc k f kvs).any fun p => decide (p.1 = k a)) = kvs.any fun p => decide (p.1 = a) := by
  unfold enc
  rw [List.any_map]
  congr 1
  funext p
  exact decide_eq_decide.mpr hk
theorem z5j {k : α → κ} {f : β → D} (hk : ∀ {a b}, k a = k b ↔ a = b) (kvs : List (α × β)) (a : α) (b : β) : dput (enc k f kvs) (k a) (f b) = enc k f (aput kvs a b) := by
  unfold dput aput
  rw [z7v hk]
  split
  · unfold enc
    rw [List.map_map, List.map_map]
    refine List.map_congr_left fun p _ => ?_
    by_cases e : p.1 = a
    · simp [e]
    · simp [e, hk]
  · unfold enc; simp
theorem zyd (kvs : List (α × β)) (a c : α) (b : β) : aget (aput kvs a b) c = if c = a then some b else aget kvs c := by
  have h1 : ∀ kvs : List (α × β), aget (kvs.map fun p => if p.1 = a then (p.1, b) else p) c = if c = a then (aget kvs c).map fun _ => b else aget kvs c := by
    intro kvs
    induction kvs with
    | nil => unfold aget; split <;> rfl
    | cons p kvs ih =>
      unfold aget at ih ⊢
      by_cases e : p.1 = a
      · by_cases e2 : c = a
        · subst e2; simp [e]
        · have : ¬ a = c := fun h => e2 h.symm
          simp [e, this, e2] at ih ⊢
          exact ih
      · by_cases e3 : p.1 = c
        · have : ¬ c = a := fun h => e (e3.trans h)
          simp [e, e3, this]
        · simp [e, e3] at ih ⊢
          exact ih
  have h2 : ∀ kvs : List (α × β), (kvs.any fun p => decide (p.1 = a)) = (aget kvs a).isSome := by
    intro kvs
    induction kvs with
    | nil => rfl
    | cons p kvs ih =>
      unfold aget at ih ⊢
      by_cases e : p.1 = a
      · simp [e]
      · simp only [List.any_cons, e, decide_false, Bool.false_or, List.find?_cons] ; exact ih
  unfold aput
  rw [h2]
  split
  · rename_i h
    rw [h1]
    by_cases e : c = a
    · subst e
      rw [if_pos rfl, if_pos rfl]
      obtain ⟨x, hx⟩ := Option.isSome_iff_exists.mp h
      rw [hx]; rfl
    · rw [if_neg e, if_neg e]
  · rename_i h
    have hn : aget kvs a = none := by simpa using h
    unfold aget at hn ⊢
    rw [List.find?_append]
    by_cases e : c = a
    · subst e
      have : kvs.find? (fun p => decide (p.1 = c)) = none := by simpa using hn
      simp [this]
    · have : ¬ a = c := fun h => e h.symm
      simp [e, this]
theorem z37 (kvs : List (α × β)) (a : α) (b : β) : ((aput kvs a b).map (·.1)) = if (aget kvs a).isSome then kvs.map (·.1) else kvs.map (·.1) ++ [a] := by
  have h2 : (kvs.any fun p => decide (p.1 = a)) = (aget kvs a).isSome := by
    induction kvs with
    | nil => rfl
    | cons p kvs ih =>
      unfold aget at ih ⊢
      by_cases e : p.1 = a
      · simp [e]
      · simp only [List.any_cons, e, decide_false, Bool.false_or, List.find?_cons] ; exact ih
  unfold aput
  rw [h2]
  split
  · rw [List.map_map]
    refine List.map_congr_left fun p _ => ?_
    simp only [Function.comp]
    split <;> rfl
  · simp
theorem z0k (kvs : List (α × β)) (a : α) : (aget kvs a).isSome ↔ a ∈ kvs.map (·.1) := by
  induction kvs with
  | nil => simp [aget]
  | cons p kvs ih =>
    unfold aget at ih ⊢
    by_cases e : p.1 = a
    · simp [e]
    · have : ¬ a = p.1 := fun h => e h.symm
      simp only [List.find?_cons, e, decide_false, List.map_cons, List.mem_cons, this, false_or]
      exact ih
theorem z05 (kvs : List (α × β)) (a : α) (b : β) : (aput kvs a b).length ≤ kvs.length + 1 := by
  unfold aput; split <;> simp
theorem z1d (kvs : List (α × β)) (a : α) (b : β) (h : (kvs.map (·.1)).Nodup) : ((aput kvs a b).map (·.1)).Nodup := by
  rw [z37]
  split
  · exact h
  · rename_i hn
    rw [z0k] at hn
    rw [List.nodup_append]
    exact ⟨h, by simp, fun x hx y hy => by simp at hy; subst hy; exact fun e => hn (e ▸ hx)⟩
/-- kvs counts L -/
structure Cnt (kvs : List (α × Int)) (L : List α) : Prop where
  nd : (kvs.map (·.1)).Nodup
  at_ : ∀ a, aget kvs a = if L.count a = 0 then none else some (L.count a : Int)
  le : kvs.length ≤ L.length
theorem Cnt.nil : Cnt ([] : List (α × Int)) [] := ⟨List.nodup_nil, fun a => by simp [aget], Nat.le_refl _⟩
theorem Cnt.step {kvs : List (α × Int)} {L : List α} (h : Cnt kvs L) (a : α) : Cnt (aput kvs a ((aget kvs a).getD 0 + 1)) (L ++ [a]) := by
  refine ⟨z1d _ _ _ h.nd, fun c => ?_, ?_⟩
  · rw [zyd, h.at_ a, h.at_ c, List.count_append]
    by_cases e : c = a
    · subst e
      rw [if_pos rfl]
      by_cases z : L.count c = 0
      · simp [z]
      · simp [z]
    · have e' : ¬ a = c := fun h => e h.symm
      rw [if_neg e]
      simp [e', List.count_singleton]
  · have := z05 kvs a ((aget kvs a).getD 0 + 1)
    have := h.le
    rw [List.length_append, List.length_singleton]; omega
theorem Cnt.mem {kvs : List (α × Int)} {L : List α} (h : Cnt kvs L) (a : α) : a ∈ kvs.map (·.1) ↔ a ∈ L := by
  rw [← z0k, h.at_ a]
  by_cases z : L.count a = 0
  · simp [z, List.count_eq_zero.mp z]
  · simp only [z, if_false, Option.isSome_some, true_iff]
    exact List.count_pos_iff.mp (Nat.pos_of_ne_zero z)
end
def k2 (p : Int × Int) : NestedKey := .tup [.num p.1, .num p.2]
def k3 (p : Int × Int × Int) : NestedKey := .tup [.num p.1, .num p.2.1, .num p.2.2]
theorem z2a {a b : Int × Int} : k2 a = k2 b ↔ a = b := by
  obtain ⟨a1, a2⟩ := a; obtain ⟨b1, b2⟩ := b
  simp [k2]
theorem z07 {a b : Int × Int × Int} : k3 a = k3 b ↔ a = b := by
  obtain ⟨a1, a2, a3⟩ := a; obtain ⟨b1, b2, b3⟩ := b
  simp [k3]
theorem zaax (p : Int × Int) : D.key (e2 p) = some (k2 p) := by simp [e2, k2, D.key, D.keys]
theorem z8w (p : Int × Int) : (k2 p).depth ≤ 8 := by simp [k2, NestedKey.depth, NestedKey.depthAll]
theorem zaai (p : Int × Int) : nkD (k2 p) = e2 p := by simp [e2, k2, nkD, nkDs]
def drw (ns : List Int) (c : Int) : DO := .lst [.nd .scr (ns.map .int), .int c]
def zdx : DRn := d2 fun s i G Q => ∃ (ns : List Int) (c : Int), s = .nd .scr (ns.map .int) ∧ i = .int c ∧ ns.length ≤ 63 ∧ ∀ r : Int, 0 ≤ r → Q (.int r) G
def zi : DRn := d2 fun dr m G Q => ∃ (a : Addr) (ns : List Int) (c n : Int), dr = .ref a ∧ m = .int n ∧ 0 < n ∧ ns.length ≤ 63 ∧ G a = some (drw ns c) ∧ ∀ r : Int, 0 ≤ r → r < n → Q (.int r) (up G a (drw ns (c + 1)))
theorem zs3 : ∀ ds G Q, zdx ds G Q → ds.length = 2 := fun ds G Q h => by
  match ds, h with
  | [_, _], _ => rfl
theorem zvl : ∀ ds G Q, zi ds G Q → ds.length = 2 := fun ds G Q h => by
  match ds, h with
  | [_, _], _ => rfl
abbrev ziu : List Str := ["script", "index", "cell", "far", "rest", "lap", "blend"]
def z3h : DTS :=
    (dSeq (dFor (ze8 (zd (dOp dMod (dCB dInt (zd (zf 3) dNil)) (dC (.int 60))) dNil)) (zn 5)
    (dAsg (dOp zpn (zf 4) (dC (.int 1009))) (zn 4)))
    (dSeq (dIfS (zan (dOp dGt (zf 4) (dC (.int 0))))
    (dRet (dOp dMod (dCB dInt (zd (zf 4) dNil)) (dC (.int 1009))))
    zck)
    (dSeq (dAsg (dOp dMod (dOp dAdd (dOp dMul (dCB dInt (zd (dOp dAdd (zf 2) (dOp dMul (dC (.int 977)) (zf 1))) dNil)) (dC (.int 48271))) (dOp dMul (dC (.int 31)) (dCB dLen (zd (zf 0) dNil)))) (dC (.int 2147483647))) (zn 6))
    (dSeq (dAsg (dOp dMod (dOp dAdd (dOp dMul (zf 6) (zf 6)) (dOp dMul (dC (.int 40503)) (zf 1))) (dC (.int 2147483629))) (zn 6))
    (dRet (dCB dInt (zd (dOp dMod (dOp dAdd (dOp dMul (zf 6) (dC (.int 69621))) (dOp zpn (zf 6) (dC (.int 977)))) (dC (.int 2147483587))) dNil)))))))
def zlj : DTS :=
    (dSeq (dAsg (dIf (zan (dOp dNe (zf 0) (zha dNil))) (dTup (zd (dOp dIx (zf 0) (dOp dMod (zf 1) (dCB dLen (zd (zf 0) dNil)))) (zd (dOp zpn (zf 1) (dCB dLen (zd (zf 0) dNil))) dNil))) (dTup (zd (dC (.int 12345)) (zd (dC (.int 0)) dNil)))) (zf6 (zag (zn 2) (zag (zn 3) zgc)) 2))
    (dSeq (dAsg (dIf (zan (dOp dLt (zf 3) (dC (.int 60)))) (dOp dSub (zf 2) (dOp dPow (dC (.int 10)) (dC (.int 18)))) (dC (.int 0))) (zn 4))
    z3h))
abbrev zlv : List Str := ["draw", "many"]
def zob : DTS :=
    (dSeq (zq0 (zf 0) (dC (.int 1)) (dC (.int 1)) z2r z6b dSet)
    (dRet (dOp dMod (dCB dInt (zd (dCB zdx (zd (dOp dIx (zf 0) (dC (.int 0))) (zd (dCB dInt (zd (dOp dIx (zf 0) (dC (.int 1))) dNil)) dNil))) dNil)) (zf 1))))
theorem z1c (ns : List Int) : plainDs (ns.map .int) = true := by
  induction ns with
  | nil => rfl
  | cons n ns ih => exact ih
theorem z1j {ns : List Int} {G : DHp} {Q : DVK} (h : Q (.bl (!ns.isEmpty)) G) : dNe (.nd .scr (ns.map .int)) (.nd .lst []) G Q := by
  have hc : cleans (ns.map D.int) = true := zhi (fun _ => rfl) ns
  have e1 : py (.nd .scr (ns.map .int)) = .list (pys (ns.map .int)) := by rw [py]
  have e2 : py (.nd .lst []) = .list [] := by rw [py, pys]
  refine ⟨⟨by show zcl (.nd .scr _) = true; rw [zcl]; exact z1c ns, rfl, ?_, ?_⟩, ?_⟩
  · show SeqAt.shaped (py (.nd .scr (ns.map .int))) = true
    rw [e1]
    unfold SeqAt.shaped
    have := zlt (B := 0) (ds := ns.map D.int) fun d hd => by
      obtain ⟨i, _, rfl⟩ := List.mem_map.mp hd; exact Nat.le_of_eq (zev i)
    rw [PyData.canLay0, cleans_lay hc, PyData.depth, decide_eq_true (by omega)]; rfl
  · show SeqAt.shaped (py (.nd .lst [])) = true
    rw [e2]; decide
  · show Q (.bl (!PyData.eqv (py (.nd .scr (ns.map .int))) (py (.nd .lst [])))) G
    rw [e1, e2, PyData.eqv]
    cases ns with
    | nil => simpa [pys, PyData.eqvAll] using h
    | cons n ns => simpa [pys, PyData.eqvAll] using h
theorem zn8 {d : D} {ds : List D} {G : DHp} {Q : DVK} (h : sqD d G = some ds) : dLen [d] G Q = Q (.int ds.length) G := by
  unfold dLen d1
  simp only [h]
theorem zn7 {ns : List Int} {G : DHp} {Q : DVK} : dLen [.nd .scr (ns.map .int)] G Q = Q (.int ns.length) G := by
  rw [zn8 (ds := ns.map .int) rfl, List.length_map]
theorem zpd {i : Int} {G : DHp} {Q : DVK} : dInt [.int i] G Q = Q (.int i) G := rfl
theorem zrp {ns : List Int} {c cell far rest : Int} {G : DHp} {Q : DVK} (q : ∀ r : Int, 0 ≤ r → Q (.int r) G) :
    z3h { nx := fun _ G' => Q .non G', rt := Q } [some (.nd .scr (ns.map .int)), some (.int c), some (.int cell), some (.int far), some (.int rest), none, none] G := by
  unfold z3h
  refine ⟨(by show (0 : Int) < 60; decide), ⟨by omega, by omega⟩, fun i η G' => G' = G ∧ ∃ z : Int, η = [some (.nd .scr (ns.map .int)), some (.int c), some (.int cell), some (.int far), some (.int z), none, none], ⟨rfl, rest, rfl⟩, fun _ _ _ _ => trivial, ?_, ?_⟩
  · rintro i d η G' hd ⟨rfl, z, rfl⟩
    obtain ⟨x, hx, rfl⟩ := zcq hd
    simp only [dSeq, dIfS, zan, dOp, zf, dC, dRet, zha, zd, dNil, dTup, zck, dAsg, zk8, zn, zib, dM, dM0, dIf, dAnd, dOr, dNot, zk1, dOrV, zn9, zla, dFz, zo9, zuq, znu, ztx, dCB, zf6, zag, zgc, zp3, dNeg, dAug, zq0, dFrz, dPar, zhs, zqf, zkw, dYes, zkn, i2, d1, d2, d3, zav, List.map_cons, List.map_nil, List.length_cons, List.length_nil, List.cons_append, List.nil_append, List.append_nil, List.getElem?_cons_zero, List.getElem?_cons_succ, List.getElem?_nil, List.replicate, List.set_cons_succ, List.set_cons_zero, Nat.reduceAdd, Nat.reduceSub, Nat.reduceLeDiff, zkj, zkf, znv, znr, znm, znp, zhw, zf1, true_and, and_true, Bool.not_eq_true, Bool.not_true, Bool.not_false, if_true, if_false, Bool.false_eq_true, ite_true, ite_false, reduceIte, reduceCtorEq, decide_eq_true_eq, decide_eq_false_iff_not]
    exact ⟨⟨by decide, by decide⟩, _, (by repeat (first | exact Le.nil | apply Le.keep | apply Le.drop)), rfl, _, rfl⟩
  · rintro η G' ⟨rfl, z, rfl⟩
    simp only [zn7, zpd, dSeq, dIfS, zan, dOp, zf, dC, dRet, zha, zd, dNil, dTup, zck, dAsg, zk8, zn, zib, dM, dM0, dIf, dAnd, dOr, dNot, zk1, dOrV, zn9, zla, dFz, zo9, zuq, znu, ztx, dCB, zf6, zag, zgc, zp3, dNeg, dAug, zq0, dFrz, dPar, zhs, zqf, zkw, dYes, zkn, i2, d1, d2, d3, zav, List.map_cons, List.map_nil, List.length_cons, List.length_nil, List.cons_append, List.nil_append, List.append_nil, List.getElem?_cons_zero, List.getElem?_cons_succ, List.getElem?_nil, List.replicate, List.set_cons_succ, List.set_cons_zero, Nat.reduceAdd, Nat.reduceSub, Nat.reduceLeDiff, zkj, zkf, znv, znr, znm, znp, zhw, zf1, true_and, and_true, Bool.not_eq_true, Bool.not_true, Bool.not_false, if_true, if_false, Bool.false_eq_true, ite_true, ite_false, reduceIte, reduceCtorEq, decide_eq_true_eq, decide_eq_false_iff_not]
    split
    · exact ⟨by decide, q _ (Int.emod_nonneg _ (by decide))⟩
    · refine ⟨.inl ⟨by decide, by decide⟩, .inr ⟨by decide, by decide⟩, .inl ⟨by decide, by decide⟩, by decide, ?_⟩
      have hb := Int.emod_nonneg ((cell + 977 * c) * 48271 + 31 * (ns.length : Int)) (show (2147483647 : Int) ≠ 0 by decide)
      have hb2 := Int.emod_lt_of_pos ((cell + 977 * c) * 48271 + 31 * (ns.length : Int)) (show (0 : Int) < 2147483647 by decide)
      generalize ((cell + 977 * c) * 48271 + 31 * (ns.length : Int)) % 2147483647 = b at hb hb2 ⊢
      refine ⟨.inl ⟨by omega, by omega⟩, .inl ⟨by decide, by decide⟩, by decide, ?_⟩
      refine ⟨.inr ⟨by decide, by decide⟩, ⟨by decide, by decide⟩, by decide, q _ (Int.emod_nonneg _ (by decide))⟩
theorem z1q {ns : List Int} {i : Int} {G : DHp} {Q : DVK} (h0 : 0 ≤ i) (h1 : i < ns.length) (h : ∀ z : Int, Q (.int z) G) : dIx (.nd .scr (ns.map .int)) (.int i) G Q := by
  show atD (ns.map .int) (.int i) fun d => Q d G
  have hi : i.toNat < (ns.map D.int).length := by rw [List.length_map]; omega
  refine zoa h0 (d := (ns.map D.int)[i.toNat]) (List.getElem?_eq_getElem hi) ?_
  rw [List.getElem_map]
  exact h _
theorem ztj : ∀ ds G Q, zdx ds G Q → zlj { nx := fun _ G' => Q .non G', rt := Q } (zav ziu ds) G := fun ds G Q h => by
  match ds, h with
  | [_, _], ⟨ns, c, rfl, rfl, hl, q⟩ =>
    simp only [zlj, ziu, zn7, zpd, dSeq, dIfS, zan, dOp, zf, dC, dRet, zha, zd, dNil, dTup, zck, dAsg, zk8, zn, zib, dM, dM0, dIf, dAnd, dOr, dNot, zk1, dOrV, zn9, zla, dFz, zo9, zuq, znu, ztx, dCB, zf6, zag, zgc, zp3, dNeg, dAug, zq0, dFrz, dPar, zhs, zqf, zkw, dYes, zkn, i2, d1, d2, d3, zav, List.map_cons, List.map_nil, List.length_cons, List.length_nil, List.cons_append, List.nil_append, List.append_nil, List.getElem?_cons_zero, List.getElem?_cons_succ, List.getElem?_nil, List.replicate, List.set_cons_succ, List.set_cons_zero, Nat.reduceAdd, Nat.reduceSub, Nat.reduceLeDiff, zkj, zkf, znv, znr, znm, znp, zhw, zf1, true_and, and_true, Bool.not_eq_true, Bool.not_true, Bool.not_false, if_true, if_false, Bool.false_eq_true, ite_true, ite_false, reduceIte, reduceCtorEq, decide_eq_true_eq, decide_eq_false_iff_not]
    refine z1j ?_
    simp only [zn7, zpd, dSeq, dIfS, zan, dOp, zf, dC, dRet, zha, zd, dNil, dTup, zck, dAsg, zk8, zn, zib, dM, dM0, dIf, dAnd, dOr, dNot, zk1, dOrV, zn9, zla, dFz, zo9, zuq, znu, ztx, dCB, zf6, zag, zgc, zp3, dNeg, dAug, zq0, dFrz, dPar, zhs, zqf, zkw, dYes, zkn, i2, d1, d2, d3, zav, List.map_cons, List.map_nil, List.length_cons, List.length_nil, List.cons_append, List.nil_append, List.append_nil, List.getElem?_cons_zero, List.getElem?_cons_succ, List.getElem?_nil, List.replicate, List.set_cons_succ, List.set_cons_zero, Nat.reduceAdd, Nat.reduceSub, Nat.reduceLeDiff, zkj, zkf, znv, znr, znm, znp, zhw, zf1, true_and, and_true, Bool.not_eq_true, Bool.not_true, Bool.not_false, if_true, if_false, Bool.false_eq_true, ite_true, ite_false, reduceIte, reduceCtorEq, decide_eq_true_eq, decide_eq_false_iff_not]
    split
    · rename_i hne
      have hp : 0 < ns.length := by
        cases ns with
        | nil => simp at hne
        | cons _ _ => simp
      refine ⟨by omega, z1q (Int.emod_nonneg _ (by omega)) (Int.emod_lt_of_pos _ (by omega)) fun z => ⟨⟨by omega, by omega⟩, ?_⟩⟩
      split
      · exact ⟨⟨by decide, by decide, by decide⟩, trivial, zrp q⟩
      · exact zrp q
    · split
      · exact ⟨⟨by decide, by decide, by decide⟩, zrp q⟩
      · exact zrp q
theorem zwj : ∀ ds G Q, zi ds G Q → zob { nx := fun _ G' => Q .non G', rt := Q } (zav zlv ds) G := fun ds G Q h => by
  match ds, h with
  | [_, _], ⟨a, ns, c, n, rfl, rfl, hn, hl, hG, q⟩ =>
    simp only [zob, zlv, dSeq, dIfS, zan, dOp, zf, dC, dRet, zha, zd, dNil, dTup, zck, dAsg, zk8, zn, zib, dM, dM0, dIf, dAnd, dOr, dNot, zk1, dOrV, zn9, zla, dFz, zo9, zuq, znu, ztx, dCB, zf6, zag, zgc, zp3, dNeg, dAug, zq0, dFrz, dPar, zhs, zqf, zkw, dYes, zkn, i2, d1, d2, d3, zav, List.map_cons, List.map_nil, List.length_cons, List.length_nil, List.cons_append, List.nil_append, List.append_nil, List.getElem?_cons_zero, List.getElem?_cons_succ, List.getElem?_nil, List.replicate, List.set_cons_succ, List.set_cons_zero, Nat.reduceAdd, Nat.reduceSub, Nat.reduceLeDiff, zkj, zkf, znv, znr, znm, znp, zhw, zf1, true_and, and_true, Bool.not_eq_true, Bool.not_true, Bool.not_false, if_true, if_false, Bool.false_eq_true, ite_true, ite_false, reduceIte, reduceCtorEq, decide_eq_true_eq, decide_eq_false_iff_not]
    have e1 : der (.ref a) G = .nd .lst [.nd .scr (ns.map .int), .int c] := zvg hG
    show z2r (.ref a) (.int 1) G _
    unfold z2r
    rw [e1]
    refine zoa (by decide) rfl ?_
    simp only [dSeq, dIfS, zan, dOp, zf, dC, dRet, zha, zd, dNil, dTup, zck, dAsg, zk8, zn, zib, dM, dM0, dIf, dAnd, dOr, dNot, zk1, dOrV, zn9, zla, dFz, zo9, zuq, znu, ztx, dCB, zf6, zag, zgc, zp3, dNeg, dAug, zq0, dFrz, dPar, zhs, zqf, zkw, dYes, zkn, i2, d1, d2, d3, zav, List.map_cons, List.map_nil, List.length_cons, List.length_nil, List.cons_append, List.nil_append, List.append_nil, List.getElem?_cons_zero, List.getElem?_cons_succ, List.getElem?_nil, List.replicate, List.set_cons_succ, List.set_cons_zero, Nat.reduceAdd, Nat.reduceSub, Nat.reduceLeDiff, zkj, zkf, znv, znr, znm, znp, zhw, zf1, true_and, and_true, Bool.not_eq_true, Bool.not_true, Bool.not_false, if_true, if_false, Bool.false_eq_true, ite_true, ite_false, reduceIte, reduceCtorEq, decide_eq_true_eq, decide_eq_false_iff_not]
    have e2 : up G a (.lst ([D.nd .scr (ns.map .int), .int c].set 1 (.int (c + 1)))) = up G a (drw ns (c + 1)) := rfl
    have hs : ∀ R, R (up G a (drw ns (c + 1))) → dSet (.ref a) (.int 1) (.int (c + 1)) G R := fun R h => by
      show (match G a with | some (.lst ds) => _ | some (.dN kvs) => _ | some (.dK kvs) => _ | _ => False)
      rw [hG]
      exact h
    refine hs _ ?_
    have e3 : der (.ref a) (up G a (drw ns (c + 1))) = .nd .lst [.nd .scr (ns.map .int), .int (c + 1)] := zvg zo
    have hix : ∀ (i : Int) (d : D) R, 0 ≤ i → [D.nd .scr (ns.map .int), .int (c + 1)][i.toNat]? = some d → R d (up G a (drw ns (c + 1))) → dIx (.ref a) (.int i) (up G a (drw ns (c + 1))) R := fun i d R h0 h1 h => by
      unfold dIx
      rw [e3]
      exact zoa h0 h1 h
    refine hix 0 _ _ (by decide) rfl ?_
    refine hix 1 _ _ (by decide) rfl ?_
    simp only [zpd, dSeq, dIfS, zan, dOp, zf, dC, dRet, zha, zd, dNil, dTup, zck, dAsg, zk8, zn, zib, dM, dM0, dIf, dAnd, dOr, dNot, zk1, dOrV, zn9, zla, dFz, zo9, zuq, znu, ztx, dCB, zf6, zag, zgc, zp3, dNeg, dAug, zq0, dFrz, dPar, zhs, zqf, zkw, dYes, zkn, i2, d1, d2, d3, zav, List.map_cons, List.map_nil, List.length_cons, List.length_nil, List.cons_append, List.nil_append, List.append_nil, List.getElem?_cons_zero, List.getElem?_cons_succ, List.getElem?_nil, List.replicate, List.set_cons_succ, List.set_cons_zero, Nat.reduceAdd, Nat.reduceSub, Nat.reduceLeDiff, zkj, zkf, znv, znr, znm, znp, zhw, zf1, true_and, and_true, Bool.not_eq_true, Bool.not_true, Bool.not_false, if_true, if_false, Bool.false_eq_true, ite_true, ite_false, reduceIte, reduceCtorEq, decide_eq_true_eq, decide_eq_false_iff_not]
    refine ⟨ns, c + 1, rfl, rfl, hl, fun r hr => ?_⟩
    simp only [zpd, dSeq, dIfS, zan, dOp, zf, dC, dRet, zha, zd, dNil, dTup, zck, dAsg, zk8, zn, zib, dM, dM0, dIf, dAnd, dOr, dNot, zk1, dOrV, zn9, zla, dFz, zo9, zuq, znu, ztx, dCB, zf6, zag, zgc, zp3, dNeg, dAug, zq0, dFrz, dPar, zhs, zqf, zkw, dYes, zkn, i2, d1, d2, d3, zav, List.map_cons, List.map_nil, List.length_cons, List.length_nil, List.cons_append, List.nil_append, List.append_nil, List.getElem?_cons_zero, List.getElem?_cons_succ, List.getElem?_nil, List.replicate, List.set_cons_succ, List.set_cons_zero, Nat.reduceAdd, Nat.reduceSub, Nat.reduceLeDiff, zkj, zkf, znv, znr, znm, znp, zhw, zf1, true_and, and_true, Bool.not_eq_true, Bool.not_true, Bool.not_false, if_true, if_false, Bool.false_eq_true, ite_true, ite_false, reduceIte, reduceCtorEq, decide_eq_true_eq, decide_eq_false_iff_not]
    exact ⟨hn, q _ (Int.emod_nonneg _ (by omega)) (Int.emod_lt_of_pos _ hn)⟩
/-- a draw -/
theorem z5w {a : Addr} {ns : List Int} {c n : Int} {G : DHp} {Q : DVK} (hn : 0 < n) (hl : ns.length ≤ 63) (hG : G a = some (drw ns c)) (q : ∀ r : Int, 0 ≤ r → r < n → Q (.int r) (up G a (drw ns (c + 1)))) : zi [.ref a, .int n] G Q :=
  ⟨a, ns, c, n, rfl, rfl, hn, hl, hG, q⟩
end DL
namespace DL
open PySem PySem.Spec PyProof.Rows L2
section
variable {α β : Type} [DecidableEq α]
def eD (k : α → NestedKey) (f : β → D) (kvs : List (α × β)) : D := .nd (.dN ((enc k f kvs).map (·.1))) ((enc k f kvs).map (·.2))
theorem z2l (k : α → NestedKey) (f : β → D) (kvs : List (α × β)) : DO.tree (.dN (enc k f kvs)) = eD k f kvs := rfl
theorem z2g (k : α → NestedKey) (f : β → D) (kvs : List (α × β)) (G : DHp) : dicN (eD k f kvs) G = some (enc k f kvs) := by
  show some (((enc k f kvs).map (·.1)).zip ((enc k f kvs).map (·.2))) = _
  rw [zrr]
theorem z0b {k : α → NestedKey} {f : β → D} {kvs : List (α × β)} {G : DHp} {p : Addr} (e : G p = some (.dN (enc k f kvs))) : dicN (.ref p) G = some (enc k f kvs) := by
  show (match G p with | some (.dN kvs) => some kvs | _ => none) = _
  rw [e]
/-- a key that is a tuple -/
structure TKey (k : α → NestedKey) (e : α → D) : Prop where
  inj : ∀ {a b}, k a = k b ↔ a = b
  shp : ∀ a, ∃ ks, e a = .nd .tup ks
  key : ∀ a, D.key (e a) = some (k a)
  dep : ∀ a, (k a).depth ≤ 8
  nk : ∀ a, nkD (k a) = e a
theorem tk2 : TKey k2 e2 := ⟨z2a, fun _ => ⟨_, rfl⟩, zaax, z8w, zaai⟩
variable {k : α → NestedKey} {e : α → D} {f : β → D} {kvs : List (α × β)} {G : DHp} {Q : DVK} {a : α}
theorem z5l (T : TKey k e) {x z : D} (h : dicN x G = some (enc k f kvs)) (q : Q (((aget kvs a).map f).getD z) G) : zzd [x, e a, z] G Q := by
  obtain ⟨ks, ek⟩ := T.shp a
  show (match dicN x G with | some kvs => _ | none => _)
  rw [h]
  show (match e a with | .nd .tup ks => _ | _ => False)
  have hk := T.key a
  rw [ek] at hk ⊢
  show (match D.key (.nd .tup ks) with | some k => _ | none => False)
  rw [hk]
  refine ⟨T.dep a, ?_⟩
  rw [z5q T.inj]
  exact q
theorem zri (T : TKey k e) {kvs : List (α × Int)} {x : D} {z : Int} (h : dicN x G = some (enc k .int kvs)) (ty : tyD "dict" x G) (q : Q (.int ((aget kvs a).getD z)) G) : tyD "dict" x G ∧ zzd [x, e a, .int z] G Q := by
  refine ⟨ty, z5l T h ?_⟩
  rw [show ((aget kvs a).map D.int).getD (.int z) = .int ((aget kvs a).getD z) by cases aget kvs a <;> rfl]
  exact q
theorem z6n {kvs : List (NestedKey × D)} {p : Addr} (h : G p = some (.dN kvs)) : tyD "dict" (.ref p) G := by simp only [tyD, h]
theorem z2s (T : TKey k e) {p : Addr} {b : β} {R : DHp → Prop} (h : G p = some (.dN (enc k f kvs))) (hl : kvs.length < sizeLine) (q : R (up G p (.dN (enc k f (aput kvs a b))))) : dSet (.ref p) (e a) (f b) G R := by
  obtain ⟨ks, ek⟩ := T.shp a
  show (match G p with | some (.lst ds) => _ | some (.dN kvs) => _ | some (.dK kvs) => _ | _ => False)
  rw [h]
  show (match e a with | .nd .tup ks => _ | _ => False)
  have hk := T.key a
  rw [ek] at hk ⊢
  show (match D.key (.nd .tup ks) with | some k => _ | none => False)
  rw [hk]
  refine ⟨⟨T.dep a, by unfold enc; rw [List.length_map]; exact hl⟩, ?_⟩
  rw [z5j T.inj]
  exact q
end
def srtT {α : Type} (f : α → D) (xs : List α) : List α := xs.mergeSort fun a b => PySem.W.dataLe false py (f a) (f b)
theorem z3z {α : Type} (f : α → D) (xs : List α) : srt (xs.map f) = (srtT f xs).map f := by
  unfold srt srtT
  exact (List.map_mergeSort (r := fun a b => PySem.W.dataLe false py (f a) (f b)) (s := PySem.W.dataLe false py) (f := f) (l := xs) fun a _ b _ => rfl).symm
theorem zg8 {α : Type} (f : α → D) (xs : List α) : (srtT f xs).Perm xs := List.mergeSort_perm _ _
theorem z12 {α : Type} {f : α → D} {d : D} {xs : List α} {G : DHp} {Q : DVK} (h : lsD d G = some (xs.map f)) (hp : ∀ a, zbn (f a) = true) (al : ∀ a b, PySem.W.alike (py (f a)) (py (f b)) = true) (st : PySem.W.Sortable ((xs.map f).map py)) (dp : ∀ a, (py (f a)).depth ≤ 60)
    (q : ∀ p, G p = none → Q (.ref p) (up G p (.lst ((srtT f xs).map f)))) : zzw [d] G Q := by
  show (match lsD d G with | some ds => _ | none => False)
  rw [h]
  refine ⟨⟨cleans_plain (zhi hp xs), ?_, st, fun d hd => ?_⟩, fun p hn => by rw [z3z]; exact q p hn⟩
  · rw [List.map_map]; exact PySem.W.AllAlike.of al
  · obtain ⟨a, _, rfl⟩ := List.mem_map.mp hd; exact dp a
theorem al3 (a b : Int × Int × Int) : PySem.W.alike (py (e3 a)) (py (e3 b)) = true := by simp [e3, py, pys, PySem.W.alike, PySem.W.alikeAll]
theorem st3 (xs : List (Int × Int × Int)) : PySem.W.Sortable ((xs.map e3).map py) := by
  rw [List.map_map]
  exact PySem.W.Sortable.tuples fun b => ⟨.int b.1, [.int b.2.1, .int b.2.2], by simp [e3, py, pys]⟩
/-- the order of tuples of ints -/
theorem z19 (xs ys : List Int) : (!PySem.W.dataLt (.tuple (ys.map .int)) (.tuple (xs.map .int))) = decide (xs ≤ ys) := by
  rw [PySem.W.dataLt_tuple]
  have := PySem.W.dataLt_ints ys xs
  have h2 : PyProof.Rows.lexLt itemOrd (PySem.W.keyToksAll (ys.map .int)) (PySem.W.keyToksAll (xs.map .int)) = decide (ys < xs) := this
  rw [h2, ← decide_not]
  exact decide_eq_decide.mpr Iff.rfl
theorem z8n (a b : Int × Int × Int) : PySem.W.dataLe false py (e3 a) (e3 b) = decide ([a.1, a.2.1, a.2.2] ≤ [b.1, b.2.1, b.2.2]) := by
  rw [← z19, PySem.W.dataLe_eq]
  simp [e3, py, pys]
/-- two sortings of the same are the same -/
theorem zpf {α : Type} {le : α → α → Bool} (anti : ∀ a b, le a b = true → le b a = true → a = b) : ∀ {xs ys : List α}, xs.Perm ys → xs.Pairwise (fun a b => le a b = true) → ys.Pairwise (fun a b => le a b = true) → xs = ys
  | [], ys, p, _, _ => (List.Perm.nil_eq p)
  | x :: xs, [], p, _, _ => absurd p.length_eq (by simp)
  | x :: xs, y :: ys, p, hx, hy => by
    rw [List.pairwise_cons] at hx hy
    have e : x = y := by
      have m1 : x ∈ y :: ys := p.subset (by simp)
      have m2 : y ∈ x :: xs := p.symm.subset (by simp)
      rcases List.mem_cons.mp m1 with e | m1
      · exact e
      · rcases List.mem_cons.mp m2 with e | m2
        · exact e.symm
        · exact anti _ _ (hx.1 y m2) (hy.1 x m1)
    subst e
    rw [zpf anti ((List.perm_cons x).mp p) hx.2 hy.2]
theorem z8t {α : Type} {f : α → D} {g : α → List Int} (hf : ∀ a b, PySem.W.dataLe false py (f a) (f b) = decide (g a ≤ g b)) (gi : ∀ a b, g a = g b → a = b) {xs ys : List α} (p : xs.Perm ys) : srtT f xs = srtT f ys := by
  have tr : ∀ a b c : α, PySem.W.dataLe false py (f a) (f b) = true → PySem.W.dataLe false py (f b) (f c) = true → PySem.W.dataLe false py (f a) (f c) = true := fun a b c h1 h2 => by
    rw [hf, decide_eq_true_eq] at *
    exact List.le_trans h1 h2
  have tot : ∀ a b : α, (PySem.W.dataLe false py (f a) (f b) || PySem.W.dataLe false py (f b) (f a)) = true := fun a b => by
    rw [hf, hf, Bool.or_eq_true, decide_eq_true_eq, decide_eq_true_eq]
    exact List.le_total _ _
  refine zpf (le := fun a b => PySem.W.dataLe false py (f a) (f b)) (fun a b h1 h2 => ?_) ((zg8 f xs).trans (p.trans (zg8 f ys).symm)) ?_ ?_
  · rw [hf, decide_eq_true_eq] at h1 h2
    exact gi _ _ (List.le_antisymm h1 h2)
  · exact List.pairwise_mergeSort tr tot xs
  · exact List.pairwise_mergeSort tr tot ys
theorem z2u {α : Type} {f : α → D} {g : α → List Int} (hf : ∀ a b, PySem.W.dataLe false py (f a) (f b) = decide (g a ≤ g b)) {xs : List α} (h : xs.Pairwise fun a b => g a ≤ g b) : srtT f xs = xs :=
  List.mergeSort_of_pairwise (h.imp fun h => by rw [hf]; exact decide_eq_true h)
theorem z1v {α : Type} [DecidableEq α] {xs ys : List α} (h1 : xs.Nodup) (h2 : ys.Nodup) (h : ∀ a, a ∈ xs ↔ a ∈ ys) : xs.Perm ys := by
  rw [List.perm_iff_count]
  intro a
  rw [h1.count, h2.count]
  simp only [h]
theorem znz {α β : Type} {f : α → List β} {B : Nat} : ∀ {xs : List α}, (∀ x ∈ xs, (f x).length ≤ B) → (xs.flatMap f).length ≤ xs.length * B
  | [], _ => by simp
  | x :: xs, h => by
    rw [List.flatMap_cons, List.length_append, List.length_cons, Nat.succ_mul]
    have := h x (by simp)
    have := znz (f := f) (B := B) (xs := xs) fun y hy => h y (by simp [hy])
    omega
end DL
namespace DL
open PySem PySem.Spec PyProof.Rows L2
/-- the field n set to d -/
def fput (n : Str) (d : D) : List (Str × D) → List (Str × D)
  | [] => [(n, d)]
  | (g, x) :: r => if g = n then (g, d) :: r else (g, x) :: fput n d r
/-- the field of an instance of the class C -/
def fldD (C : Addr) (n : Str) (x : D) (G : DHp) : Option D := match x with
  | .ref a => (match G a with
    | some (.ins B fs) => if B = C then fs.lookup n else none
    | _ => none)
  | .nd (.ins B ns) ds => if B = C then (ns.zip ds).lookup n else none
  | _ => none
/-- an instance of the class C, without a field m of its own -/
def insD (C : Addr) (m : Str) (x : D) (G : DHp) : Prop := match x with
  | .ref a => (match G a with
    | some (.ins B fs) => B = C ∧ (fs.map (·.1)).contains m = false
    | _ => False)
  | .nd (.ins B ns) _ => B = C ∧ ns.contains m = false
  | _ => False
section
variable {K : Ml} {H : Hp} {G : DHp}
theorem z3u (n : Str) {d : D} {v : V} (q : VR K H G d v) : ∀ {fs : List (Str × D)} {ws : List (Str × V)}, ws.map (·.1) = fs.map (·.1) → VRs K H G (fs.map (·.2)) (ws.map (·.2)) →
    (putF n v ws).map (·.1) = (fput n d fs).map (·.1) ∧ VRs K H G ((fput n d fs).map (·.2)) ((putF n v ws).map (·.2))
  | [], [], _, _ => ⟨rfl, .cons q .nil⟩
  | [], _ :: _, h, _ => by simp at h
  | _ :: _, [], h, _ => by simp at h
  | (g, x) :: fs, (g2, y) :: ws, h, r => by
    simp only [List.map_cons, List.cons.injEq] at h
    obtain ⟨h1, h2⟩ := h
    subst h1
    obtain ⟨v', r', eq, q1, t⟩ := VRs.uncons r
    simp only [List.map_cons, List.cons.injEq] at eq
    obtain ⟨rfl, rfl⟩ := eq
    by_cases hg : g2 = n
    · simp only [fput, putF, hg, if_true, List.map_cons]
      exact ⟨by rw [h2], .cons q t⟩
    · simp only [fput, putF, hg, if_false, List.map_cons]
      obtain ⟨a, b⟩ := z3u n q h2 t
      exact ⟨by rw [a], .cons q1 b⟩
theorem zwk {n : Str} {d : D} : ∀ {fs : List (Str × D)} {ws : List (Str × V)}, ws.map (·.1) = fs.map (·.1) → VRs K H G (fs.map (·.2)) (ws.map (·.2)) → fs.lookup n = some d → ∃ v, ws.lookup n = some v ∧ VR K H G d v
  | [], _, _, _, e => by simp at e
  | _ :: _, [], h, _, _ => by simp at h
  | (g, x) :: fs, (g2, y) :: ws, h, r, e => by
    simp only [List.map_cons, List.cons.injEq] at h
    obtain ⟨h1, h2⟩ := h
    subst h1
    obtain ⟨v', r', eq, q1, t⟩ := VRs.uncons r
    simp only [List.map_cons, List.cons.injEq] at eq
    obtain ⟨rfl, rfl⟩ := eq
    by_cases hg : (n == g2) = true
    · simp only [List.lookup, hg, Option.some.injEq] at e ⊢
      subst e
      exact ⟨_, rfl, q1⟩
    · have hg : (n == g2) = false := by simpa using hg
      simp only [List.lookup, hg] at e ⊢
      exact zwk h2 t e
theorem zry {n : Str} : ∀ {ws : List (Str × V)}, (ws.map (·.1)).contains n = false → ws.lookup n = none
  | [], _ => rfl
  | (g, y) :: ws, h => by
    simp only [List.map_cons, List.contains_cons, Bool.or_eq_false_iff] at h
    simp only [List.lookup, h.1]
    exact zry h.2
theorem zze : ∀ {ns : List Str} {vs : List V}, ns.length = vs.length → (ns.zip vs).map (·.1) = ns
  | [], [], _ => rfl
  | n :: ns, v :: vs, h => by
    simp only [List.zip_cons_cons, List.map_cons]
    rw [zze (by simpa using h)]
theorem z2e : ∀ {ns : List Str} {vs : List V}, ns.length = vs.length → (ns.zip vs).map (·.2) = vs
  | [], [], _ => rfl
  | n :: ns, v :: vs, h => by
    simp only [List.zip_cons_cons, List.map_cons]
    rw [z2e (by simpa using h)]
theorem z0h : ∀ {ns : List Str} {vs : List D}, ns.length = vs.length → (ns.zip vs).map (·.1) = ns
  | [], [], _ => rfl
  | n :: ns, v :: vs, h => by
    simp only [List.zip_cons_cons, List.map_cons]
    rw [z0h (by simpa using h)]
theorem z0m : ∀ {ns : List Str} {vs : List D}, ns.length = vs.length → (ns.zip vs).map (·.2) = vs
  | [], [], _ => rfl
  | n :: ns, v :: vs, h => by
    simp only [List.zip_cons_cons, List.map_cons]
    rw [z0m (by simpa using h)]
/-- what stands where a field is read -/
theorem z65 {C : Addr} {n : Str} {x d : D} {v : V} (hr : HR K H G) (q : VR K H G x v) (e : fldD C n x G = some d) :
    ∃ a dx ws u, v = .ref a ∧ H a = some (.ins C dx ws) ∧ ws.lookup n = some u ∧ VR K H G d u := by
  cases x with
  | ref a =>
    rw [VR] at q
    have e : (match G a with
      | some (.ins B fs) => if B = C then fs.lookup n else none
      | _ => none) = some d := e
    cases hG : G a with
    | none => rw [hG] at e; cases e
    | some o =>
      rw [hG] at e
      cases o with
      | ins B fs =>
        simp only at e
        by_cases hB : B = C
        · subst hB
          rw [if_pos rfl] at e
          obtain ⟨dx, ws, h1, h2, h3⟩ := hr a _ hG
          obtain ⟨u, h4, h5⟩ := zwk h2 h3 e
          exact ⟨a, dx, ws, u, q, h1, h4, h5⟩
        · rw [if_neg hB] at e; cases e
      | _ => cases e
  | nd k ds =>
    cases k with
    | ins B ns =>
      rw [VR] at q
      obtain ⟨a, vs, rfl, ⟨h0, h1, dx, h2⟩, r⟩ := q
      have e : (if B = C then (ns.zip ds).lookup n else none) = some d := e
      by_cases hB : B = C
      · subst hB
        rw [if_pos rfl] at e
        have hl : ns.length = ds.length := h1.trans r.length
        obtain ⟨u, h4, h5⟩ := zwk (ws := ns.zip vs) (by rw [zze h1, z0h hl]) (by rw [z2e h1, z0m hl]; exact r) e
        exact ⟨a, dx, _, u, rfl, h2, h4, h5⟩
      · rw [if_neg hB] at e; cases e
    | _ => cases e
  | _ => cases e
/-- what stands where a method is asked for -/
theorem z3n {C : Addr} {m : Str} {x : D} {v : V} (hr : HR K H G) (q : VR K H G x v) (e : insD C m x G) : ∃ a dx ws, v = .ref a ∧ H a = some (.ins C dx ws) ∧ ws.lookup m = none := by
  cases x with
  | ref a =>
    rw [VR] at q
    have e : (match G a with
      | some (.ins B fs) => B = C ∧ (fs.map (·.1)).contains m = false
      | _ => False) := e
    cases hG : G a with
    | none => rw [hG] at e; exact e.elim
    | some o =>
      rw [hG] at e
      cases o with
      | ins B fs =>
        have e2 : B = C := e.1
        have e3 := e.2
        subst e2
        obtain ⟨dx, ws, h1, h2, h3⟩ := hr a _ hG
        exact ⟨a, dx, ws, q, h1, zry (by rw [h2]; exact e3)⟩
      | _ => exact e.elim
  | nd k ds =>
    cases k with
    | ins B ns =>
      rw [VR] at q
      obtain ⟨a, vs, rfl, ⟨h0, h1, dx, h2⟩, r⟩ := q
      obtain ⟨rfl, e⟩ := e
      exact ⟨a, dx, _, rfl, h2, zry (by rw [zze h1]; exact e)⟩
    | _ => exact e.elim
  | _ => exact e.elim
end
section
variable {X : Cx}
/-- o.n -/
def dFld (C : Addr) (n : Str) (T : DTE) : DTE := fun η G Q => T η G fun x G1 => match fldD C n x G1 with
  | some d => Q d G1
  | none => False
theorem za3 [Bs] {C : Addr} {n : Str} {e : Expr} {T : DTE} {pos : Pos} (c : Cls X.K C) (na : NoAttr X.K C n) (he : PED X e T) (hb : attributeBase e n X.env (eval e X.env) = eval e X.env := by rfl) : PED X (.Attribute e n pos) (dFld C n T) :=
  PE.impI (pe_fld he hb) fun _ _ σ H Q _ ⟨η, G, P, hs, hr, t, k⟩ => ⟨η, G, _, hs, hr, t, fun d G1 v H1 p1 x1 r1 q1 => by
    cases e : fldD C n d G1 with
    | none => rw [e] at p1; exact p1.elim
    | some z =>
      rw [e] at p1
      obtain ⟨a, dx, ws, u, h1, h2, h3, h4⟩ := z65 r1 q1 e
      exact ⟨a, C, dx, ws, u, h1, h2, c, na, h3, k z G1 u H1 p1 x1 r1 h4⟩⟩
/-- o.n = value, o tracked -/
def zka (C : Addr) (n : Str) (To Tv : DTE) : DTS := fun F η G => Tv η G fun y G1 => To η G1 fun x G2 => match x with
  | .ref a => (match G2 a with
    | some (.ins B fs) => (B = C ∧ fs.length < 1000) ∧ F.nx η (up G2 a (.ins C (fput n y fs)))
    | _ => False)
  | _ => False
theorem ze5 [Bs] {C : Addr} {n : Str} {o e : Expr} {To Tv : DTE} {pos pos' : Pos} (c : Cls X.K C) (na : NoAttr X.K C n) (ho : PED X o To) (he : PED X e Tv) (hs : swapsWith e (some (.Attribute o n pos')) pos.line X.env = pure false := by rfl) : PSD X (.Assign [.Attribute o n pos'] e pos) (zka C n To Tv) :=
  PS.impI (ps_fld ho he hs) fun _ _ σ H E _ ⟨η, G, F, hs, hr, t, k⟩ => ⟨η, G, _, hs, hr, t, fun y G1 vy H1 p1 x1 r1 q1 => ⟨η, G1, _, hs.ext hr x1, r1, p1, fun d G2 v H2 p2 x2 r2 q2 => by
    cases d with
    | ref a =>
      rw [VR] at q2
      cases hG : G2 a with
      | none =>
        have : False := by simpa [hG] using p2
        exact this.elim
      | some ob =>
        cases ob with
        | ins B fs =>
          have p2 : (B = C ∧ fs.length < 1000) ∧ F.nx η (up G2 a (.ins C (fput n y fs))) := by simpa [hG] using p2
          obtain ⟨⟨rfl, hl⟩, p2⟩ := p2
          obtain ⟨dx, ws, h1, h2, h3⟩ := r2 a _ hG
          have x3 : Ext H2 G2 (upd H2 a (.ins B dx (putF n vy ws))) (up G2 a (.ins B (fput n y fs))) := .write hG
          obtain ⟨h4, h5⟩ := z3u n (q1.ext r1 x2) h2 h3
          have hl2 : ws.length < 1000 := by
            have := congrArg List.length h2
            rw [List.length_map, List.length_map] at this
            omega
          refine ⟨a, B, dx, ws, q2, h1, c, na, hl2, k.nx η _ σ _ p2 ((x1.trans x2).trans x3) (hs.ext hr ((x1.trans x2).trans x3)) (r2.write hG ⟨dx, _, upd_same, h4, h5.ext r2 x3⟩)⟩
        | _ =>
          have : False := by simpa [hG] using p2
          exact this.elim
    | _ => exact p2.elim⟩⟩
/-- C(..): the new instance stays tracked -/
def zg0 (C : Addr) (sp : DRn) (T : DTA) : DTE := fun η G Q => T η G fun ds G1 => ∀ x, G1 x = none → sp (.ref x :: ds) (up G1 x (.ins C [])) fun d G2 => d = .non ∧ Q (.ref x) G2
theorem zfx [Bs] {C : Addr} {k : Nat} {f : Addr} {fd : FuncData} {ps : List Str} {sp : DRn} {x : Str} {p pos : Pos} {e : Expr} {es : List Expr} {T : DTA} (M : Mk X.K C f) (F : FnD X.prog X.w X.K X.mg X.base k f fd ps sp) (hr : Room (k + 1) X.A) (hm : X.mg x = some (.ref C)) (hb : Binds X.K fd ps [])
    (ha : PAD X (e :: es) T) (hg : Gl X x := by rfl) (hdb : (x == ("__debug__" : Str)) = false := by decide) (he : starEach (e :: es) X.env = (false, eval e X.env) :: starEach es X.env := by rfl) (hpl : (backTo pos (starEach es X.env)).any (·.1) = false := by rfl) :
    PED X (.Call (.Name x p) (e :: es) [] pos) (zg0 C sp T) :=
  PE.impI (pe_make M F hr hg hm hb .nil (z1z (X := X)) ha hdb he hpl) fun _ _ σ H Q _ ⟨η, G, P, hs, hr, t, k⟩ => ⟨η, G, _, hs, hr, t, fun ds G1 vs H1 p1 x1 r1 q1 => fun x dx hx hdx hne => by
    have x2 : Ext H1 G1 (upd H1 dx (.own x)) G1 := .laid hdx
    have r2 : HR X.ml (upd H1 dx (.own x)) G1 := r1.laid hdx
    have hx' : (upd H1 dx (.own x)) x = none := by rw [upd_ne hne.symm]; exact hx
    have x3 : Ext (upd H1 dx (.own x)) G1 (upd (upd H1 dx (.own x)) x (.ins C dx [])) (up G1 x (.ins C [])) := .new hx'
    have r3 := r2.new (u := .ins C []) hx' ⟨dx, [], upd_same, rfl, .nil⟩
    show zz8 X.ml sp (.ref x :: (vs ++ [])) _ _
    rw [List.append_nil]
    exact ⟨.ref x :: ds, _, _, .cons (by rw [VR]) ((q1.ext r1 x2).ext r2 x3), r3, p1 x (r1.free hx), fun d G' v H' ⟨pd, pq⟩ xx rr qq => ⟨by subst pd; rw [VR] at qq; exact qq, k _ G' (.ref x) H' pq (((x1.trans x2).trans x3).trans xx) rr (by rw [VR])⟩⟩⟩
/-- o.m(..), m a def of the class -/
def zp5 (C : Addr) (m : Str) (sp : DRn) (To : DTE) (T : DTA) : DTE := fun η G Q => To η G fun x G1 => insD C m x G1 ∧ T η G1 fun ds G2 => sp (x :: ds) G2 Q
theorem zrk [Bs] {C : Addr} {m : Str} {k : Nat} {f : Addr} {fd : FuncData} {ps : List Str} {sp : DRn} {apos pos : Pos} {o e : Expr} {es : List Expr} {To : DTE} {T : DTA} {pl : Sem Bool} (c : Cls X.K C) (hm : Meth X.K C m f) (F : FnD X.prog X.w X.K X.mg X.base k f fd ps sp) (hr : Room k X.A) (hb : Binds X.K fd ps [])
    (ho : PED X o To) (ha : PAD X (e :: es) T) (hst : starEach (e :: es) X.env = (false, eval e X.env) :: starEach es X.env := by rfl) (hpl : (backTo pos (starEach es X.env)).any (·.1) = false := by rfl)
    (ht : eval (.Call (.Attribute o m apos) (e :: es) [] pos) X.env = (do
      let ov ← eval o X.env
      standAt apos.atName
      let (g, first) ← holding [ov] (getMethod ov m pl)
      callWith pos g first (backTo pos (starEach (e :: es) X.env)) (backToKw pos (keywordEach [] X.env))) := by rfl) :
    PED X (.Call (.Attribute o m apos) (e :: es) [] pos) (zp5 C m sp To T) :=
  PE.impI (pe_meth (pl := pl) ho c hm F hr hb .nil (z1z (X := X)) ha hst hpl ht) fun _ _ σ H Q _ ⟨η, G, P, hs, hr, t, k⟩ => ⟨η, G, _, hs, hr, t, fun d G1 v H1 ⟨pi, p1⟩ x1 r1 q1 => by
    obtain ⟨a, dx, ws, h1, h2, h3⟩ := z3n r1 q1 pi
    refine ⟨a, dx, ws, h1, h2, h3, η, G1, _, hs.ext hr x1, r1, p1, fun ds G2 vs H2 p2 x2 r2 q2 => ?_⟩
    show zz8 X.ml sp (v :: (vs ++ [])) _ _
    rw [List.append_nil]
    exact ⟨d :: ds, G2, P, .cons (q1.ext r1 x2) q2, r2, p2, fun d' G' v' H' p x r q => k d' G' v' H' p ((x1.trans x2).trans x) r q⟩⟩
theorem zyl [Bs] {C : Addr} {m : Str} {k : Nat} {f : Addr} {fd : FuncData} {ps : List Str} {sp : DRn} {apos pos : Pos} {o : Expr} {To : DTE} {pl : Sem Bool} (c : Cls X.K C) (hm : Meth X.K C m f) (F : FnD X.prog X.w X.K X.mg X.base k f fd ps sp) (hr : Room k X.A) (hb : Binds X.K fd ps [])
    (ho : PED X o To)
    (ht : eval (.Call (.Attribute o m apos) [] [] pos) X.env = (do
      let ov ← eval o X.env
      standAt apos.atName
      let (g, first) ← holding [ov] (getMethod ov m pl)
      callWith pos g first (backTo pos (starEach [] X.env)) (backToKw pos (keywordEach [] X.env))) := by rfl) :
    PED X (.Call (.Attribute o m apos) [] [] pos) (zp5 C m sp To dNil) :=
  PE.impI (pe_meth0 (pl := pl) ho c hm F hr hb .nil (z1z (X := X)) ht) fun _ _ σ H Q _ ⟨η, G, P, hs, hr, t, k⟩ => ⟨η, G, _, hs, hr, t, fun d G1 v H1 ⟨pi, p1⟩ x1 r1 q1 => by
    obtain ⟨a, dx, ws, h1, h2, h3⟩ := z3n r1 q1 pi
    exact ⟨a, dx, ws, h1, h2, h3, [d], G1, P, .cons q1 .nil, r1, p1, fun d' G' v' H' p x r q => k d' G' v' H' p (x1.trans x) r q⟩⟩
end
end DL
namespace DL
open PySem PySem.Spec PyProof.Rows L2
/-- the type of a tree -/
def kTy (x : D) (G : DHp) : Option Value := match x with
  | .non => some (.type "NoneType")
  | .bl _ => some (.type "bool")
  | .int _ => some (.type "int")
  | .str _ => some (.type "str")
  | .nd .tup _ => some (.type "tuple")
  | .nd .lst _ => some (.type "list")
  | .nd .scr _ => some (.type "list")
  | .nd (.dK _) _ => some (.type "dict")
  | .nd (.ins C _) _ => some (.ref C)
  | .ref a => (match G a with
    | some (.lst _) => some (.type "list")
    | some (.dK _) => some (.type "dict")
    | some (.ins C _) => some (.ref C)
    | _ => none)
  | _ => none
def kCl (c : D) : Option Value := match c with
  | .ty n => some (.type n)
  | .ref C => some (.ref C)
  | _ => none
/-- a class whose instances tell their class -/
structure IsC (K : PySem.W.Frag) (C : Addr) : Prop where
  cl : Cls K C
  own : PySem.W.findIn K (.ref C) "__class__" = some (some (.builtin "object.__class__"))
  gs : PySem.W.specialIn K (.builtin "object.__class__") "__get__" = some (some (.builtin "getset_descriptor.__get__"))
  tk : PySem.W.takesIn K (.builtin "object.__class__") = some true
  ob : PySem.W.mroIn K C (.type "object") = some true
/-- the table tells the truth -/
def z6w (K : PySem.W.Frag) (I : Value → Value → Option Bool) : Prop := ∀ t u b, I t u = some b → PySem.W.kitOne K t u = some b ∧ ∀ C, t = .ref C → IsC K C
def dIsi (I : Value → Value → Option Bool) : DRn := d2 fun x c G Q => match kTy x G, kCl c with
  | some t, some u => (match I t u with
    | some b => Q (.bl b) G
    | none => False)
  | _, _ => False
abbrev z14 : List String := ["int", "bool", "str", "tuple", "list", "dict", "NoneType"]
/-- of the built-in types -/
def tyIs (a b : String) : Option Bool := if a = b then some true else if a ∈ z14 ∧ b ∈ ["int", "bool", "str", "tuple", "list", "dict"] then some (a == "bool" && b == "int") else none
theorem z5s : ∀ a ∈ z14, ∀ b ∈ ["int", "bool", "str", "tuple", "list", "dict"], a ≠ b → kitB a b = some (a == "bool" && b == "int") := by decide +kernel
theorem z4p {K : PySem.W.Frag} {a b : String} {r : Bool} (h : tyIs a b = some r) : PySem.W.kitOne K (.type a) (.type b) = some r := by
  unfold tyIs at h
  refine kit_ty ?_
  split at h
  · rename_i e
    subst e
    cases h
    unfold kitB
    rw [if_pos (by simp)]
  · rename_i e
    split at h
    · rename_i q
      rw [z5s a q.1 b q.2 e]
      exact h
    · cases h
section
variable {X : Cx}
theorem z9k {K : Ml} {H : Hp} {G : DHp} {x : D} {v : V} {t : Value} (hr : HR K H G) (q : VR K H G x v) (e : kTy x G = some t) (ic : ∀ C, t = .ref C → IsC K.K C) : TyX K.K H v t := by
  cases x with
  | non => rw [VR] at q; subst q; cases e; exact .base .non
  | bl b => rw [VR] at q; subst q; cases e; exact .base (.bl _)
  | int b => rw [VR] at q; subst q; cases e; exact .base (.int _)
  | str b => rw [VR] at q; subst q; cases e; exact .base (.str _)
  | ty n => cases e
  | ref a =>
    rw [VR] at q
    subst q
    cases hG : G a with
    | none => simp [kTy, hG] at e
    | some o =>
      cases o with
      | lst ds =>
        have e : Value.type "list" = t := by simpa [kTy, hG] using e
        subst e
        obtain ⟨vs, h1, _⟩ := hr a _ hG
        exact .base (.lst h1)
      | dK kvs =>
        have e : Value.type "dict" = t := by simpa [kTy, hG] using e
        subst e
        obtain ⟨ws, h1, _⟩ := hr a _ hG
        exact .base (.dK h1)
      | dN kvs => simp [kTy, hG] at e
      | rw _ _ _ => simp [kTy, hG] at e
      | ins C fs =>
        have e : Value.ref C = t := by simpa [kTy, hG] using e
        subst e
        obtain ⟨dx, ws, h1, _⟩ := hr a _ hG
        have c := ic C rfl
        exact .base (.ins h1 c.cl c.own c.gs c.tk c.ob)
  | nd k ds =>
    rw [VR] at q
    obtain ⟨a, vs, rfl, hh, _⟩ := q
    cases k with
    | tup =>
      cases e
      rcases hh with (h | ⟨o, h⟩) | ⟨o, its, n, h1, h2, _⟩
      · exact .base (.tup h)
      · exact .fTuple h
      · exact .kTuple h1 h2
    | lst =>
      cases e
      exact .base (.lst hh.2)
    | scr =>
      cases e
      rcases hh with ⟨o, h⟩ | ⟨o, its, n, h1, h2, _⟩
      · exact .base (.frz h)
      · exact .kList h1 h2
    | dK ks =>
      cases e
      obtain ⟨_, o, h⟩ := hh
      exact .fDict h
    | dN ks => cases e
    | ins C ns =>
      cases e
      obtain ⟨_, _, dx, h⟩ := hh
      have c := ic C rfl
      exact .base (.ins h c.cl c.own c.gs c.tk c.ob)
theorem zl7 {I : Value → Value → Option Bool} (hI : z6w X.K I) : zkv X (.builtin "isinstance") (dIsi I) := zuw fun pins s σ H G x y v u d e P Iv rx ry hr q1 q2 t => by
  cases ht : kTy d G with
  | none => rw [ht] at t; exact t.elim
  | some tt =>
    cases hc : kCl e with
    | none => rw [ht, hc] at t; exact t.elim
    | some uu =>
      rw [ht, hc] at t
      simp only at t
      cases hi : I tt uu with
      | none => rw [hi] at t; exact t.elim
      | some b =>
        rw [hi] at t
        obtain ⟨k1, k2⟩ := hI _ _ _ hi
        have cv : ClsV y uu := by
          cases e with
          | ty n => rw [VR] at q2; subst q2; cases hc; exact .ty n
          | ref C => rw [VR] at q2; subst q2; cases hc; exact .own C
          | _ => cases hc
        exact thn (call_isi pins s σ H [x, y] [v, u] (fun z H' => z = .bl b ∧ H' = H) Iv (.cons rx (.cons ry .nil)) ⟨x, y, tt, uu, b, rfl, cv, z9k hr q1 ht k2, k1, rfl, rfl⟩) fun w s' ⟨z, H', I', rz, e1, e2⟩ => by
          subst e1 e2
          exact ⟨.bl b, .bl b, _, _, I', rz, t, .refl _ _, hr, by rw [VR]⟩
end
/-- the items by their places -/
def zli (ds : List D) : List D := ds.mapIdx fun i d => .nd .tup [.int (i : Nat), d]
def ztk (T : DTA) : DTI := fun η G R => T η G fun ds G1 => match ds with
  | [d] => (match d with
    | .nd .tup xs => R (zli xs) zcm G1
    | .nd .lst xs => R (zli xs) zcm G1
    | .nd .scr xs => R (zli xs) zcm G1
    | _ => False)
  | _ => False
theorem zjg {ds : List D} {i : Nat} {d : D} (h : (zli ds)[i]? = some d) : ∃ x, ds[i]? = some x ∧ d = .nd .tup [.int (i : Nat), x] := by
  unfold zli at h
  rw [List.getElem?_mapIdx] at h
  cases e : ds[i]? with
  | none => rw [e] at h; cases h
  | some x => rw [e] at h; cases h; exact ⟨x, rfl, rfl⟩
theorem zk0 (ds : List D) : (zli ds).length = ds.length := by unfold zli; rw [List.length_mapIdx]
theorem Ite.itD {K : Ml} {H1 : Hp} {G1 : DHp} {a : Addr} {ds : List D} (h : ∀ H G, Ext H1 G1 H G → HR K H G → ∃ vs, SqL K.K H a vs ∧ VRs K H G ds vs) : ItD K H1 G1 (Ite K.K a) (zli ds) zcm := by
  intro i H G x r o
  obtain ⟨vs, q, v⟩ := h H G x r
  refine ⟨fun d e => ?_, fun l => ⟨vs, q, by rw [v.length]; rw [zk0] at l; exact l⟩⟩
  obtain ⟨z, e1, rfl⟩ := zjg e
  obtain ⟨u, e2, q2⟩ := v.get e1
  refine ⟨⟨vs, u, q, e2⟩, fun y H' ⟨T, y2, e3, hT, e5, e4⟩ => ?_⟩
  subst e3 e5
  have e6 := e4 vs q
  rw [e2] at e6; cases e6
  have x2 : Ext H G (upd H T (.tup [.int (i : Nat), u])) G := .laid hT
  refine ⟨x2, r.laid hT, ?_⟩
  rw [VR]
  exact ⟨T, _, rfl, .inl (.inl upd_same), .cons (by rw [VR]) (.cons (q2.ext r x2) .nil)⟩
/-- the tuple at a, each item in a new pair -/
def IteT (K : PySem.W.Frag) (a : Addr) : It :=
  ⟨fun i H => ∃ (xs : List V) (x : V), SqT K H a xs ∧ xs[i]? = some x,
    fun i H v H' => ∃ T x, v = .ref T ∧ H T = none ∧ H' = upd H T (.tup [.int (i : Nat), x]) ∧ ∀ xs, SqT K H a xs → xs[i]? = some x,
    fun i H => ∃ xs : List V, SqT K H a xs ∧ xs.length ≤ i⟩
theorem IteT.itD {K : Ml} {H1 : Hp} {G1 : DHp} {a : Addr} {ds : List D} (h : ∀ H G, Ext H1 G1 H G → HR K H G → ∃ vs, SqT K.K H a vs ∧ VRs K H G ds vs) : ItD K H1 G1 (IteT K.K a) (zli ds) zcm := by
  intro i H G x r o
  obtain ⟨vs, q, v⟩ := h H G x r
  refine ⟨fun d e => ?_, fun l => ⟨vs, q, by rw [v.length]; rw [zk0] at l; exact l⟩⟩
  obtain ⟨z, e1, rfl⟩ := zjg e
  obtain ⟨u, e2, q2⟩ := v.get e1
  refine ⟨⟨vs, u, q, e2⟩, fun y H' ⟨T, y2, e3, hT, e5, e4⟩ => ?_⟩
  subst e3 e5
  have e6 := e4 vs q
  rw [e2] at e6; cases e6
  have x2 : Ext H G (upd H T (.tup [.int (i : Nat), u])) G := .laid hT
  refine ⟨x2, r.laid hT, ?_⟩
  rw [VR]
  exact ⟨T, _, rfl, .inl (.inl upd_same), .cons (by rw [VR]) (.cons (q2.ext r x2) .nil)⟩
theorem z5y {P : Program} {w : World} {K : PySem.W.Frag} {elts : List Expr} {kk : Nat} {tpos : Pos} (a e it : Addr) (hai : a ≠ it) :
    Turn P w K (.Tuple elts kk tpos) (IteT K a) [e, it] e (fun i h => (∃ old, IsEnum h e it ((i : Nat) : Int) old) ∧ h.IsTupleIter it a i ∧ e ≠ it ∧ e ≠ a) where
  mem := by simp
  obj := fun i h ⟨⟨old, he⟩, ⟨o, ho, hc, hd⟩, _⟩ b hb => by
    rcases (by simpa using hb : b = e ∨ b = it) with z | z
    · subst z; exact ⟨_, he, fun v q => nomatch q⟩
    · subst z; exact ⟨o, ho, fun v q => by rw [hd] at q; cases q⟩
  keep := fun i h h' ⟨⟨old, he⟩, hi, hne⟩ k => ⟨⟨old, k e (by simp) _ he⟩, hi.at fun o q => k it (by simp) o q, hne⟩
  item := by
    intro X hP hw hK hc i pins s σ H E I hf ⟨⟨old, he⟩, hit, hne, hea⟩ ⟨xs, x, hq, hx⟩
    subst hP hw hK
    obtain ⟨its, rv, p, hz⟩ := I.tuple hq
    obtain ⟨u, hu, ru⟩ := rv.get hx
    have hel : e < s.heap.objs.size := Heap.lt_size he
    have hil : it < s.heap.objs.size := by obtain ⟨_, q, _⟩ := hit; exact Heap.lt_size q
    have hlt : i < its.toArray.size := by
      rw [List.size_toArray]
      exact (List.getElem?_eq_some_iff.mp hu).1
    have D := Draws.tuple (prog := X.prog) (w := X.w) (A := X.A.in1) (I.ok.hd hc) it a hai its.toArray
    refine wpAny_pyNext_enum_itemD D he ⟨hit, p⟩ hlt hne (by simp only [List.mem_cons, List.not_mem_nil, or_false, not_or]; exact ⟨hne, hea⟩) fun x' h' tk hP ho hs' hT hsz hk => ?_
    have e0 : x' = u := by
      rw [List.getElem?_toArray] at hP
      rw [hu] at hP; cases hP; rfl
    subst e0
    refine ⟨_, rfl, wpAny_letOwnedTupleGo_enum (s := { s with heap := h', toks := tk + 1 }) ho fun h'' he' sb => ?_⟩
    have hT2 : h''.get? s.heap.objs.size = some { cls := .type "tuple", data := .seq #[.int i tk, x'] } := (sb.2 _ (Nat.ne_of_gt hel)).trans hT
    have new : ObjOk X.prog X.w (upd H s.heap.objs.size (.tup [.int (i : Nat), x])) h'' s.heap.objs.size (.tup [.int (i : Nat), x]) :=
      ⟨by show 2 ≤ sizeLine; decide, [.int i tk, x'], .cons ⟨_, rfl⟩ (.cons ru .nil), ⟨_, hT2, rfl, _, rfl⟩⟩
    have I1 : Inv X pins σ (upd H s.heap.objs.size (.tup [.int (i : Nat), x])) { s with heap := h'', toks := tk + 1 } :=
      I.turnedNew (ch := [e, it]) (fun b ob hb q => by
        have hb1 : b ≠ e := fun z => hb (by simp [z])
        have hb2 : b ≠ it := fun z => hb (by simp [z])
        exact (sb.2 b hb1).trans (hk b ob hb1 hb2 q)) hf (Nat.le_refl _) new
    refine ⟨.ref s.heap.objs.size, _, I1, rfl, ⟨_, x, rfl, I.hok.fresh (Nat.le_refl _), rfl, fun ys hy => by rw [I.tuple_inj hy hq]; exact hx⟩, ⟨⟨x', ?_⟩, hs'.1.at fun o q => (sb.2 it (Ne.symm hne)).trans q, hne, hea⟩, fun b hb => ?_⟩
    · have e1 : ((i + 1 : Nat) : Int) = (i : Int) + 1 := by omega
      show IsEnum h'' e it ((i + 1 : Nat) : Int) x'
      rw [e1]; exact he'
    have hb' : b < s.heap.objs.size := by
      rcases (by simpa using hb : b = e ∨ b = it) with z | z
      · subst z; exact hel
      · subst z; exact hil
    rw [upd_ne (Nat.ne_of_lt hb')]
    exact (hf b hb).1
  done := by
    intro X hP hw hK hc i pins s σ H E I hf ⟨⟨old, he⟩, hit, hne, hea⟩ ⟨xs, hq, hx⟩
    subst hP hw hK
    obtain ⟨its, rv, p, hz⟩ := I.tuple hq
    obtain ⟨f0, f1, f2, f3, f4, f5⟩ := hf it (by simp)
    have hl := rv.length
    have hT : s.TypeIs (.ref e) "enumerate" := ⟨_, he, rfl⟩
    unfold pyNext
    refine wpAny_bind (wpAny_attempt (wpAny_callSpecial?_slot (name := Str.ofString "__next__") hT F.slot_enumerate_next (wpAny_call_entry F.slot_enumerate_next hT F.entry_enumerate_next ?_ (F.args_enumerate_next_1 _))))
    show wpAny _ _ (field (.ref e) 2 >>= _) _ _ _
    refine wpAny_bind (wpAny_field he rfl (x := .ref it) rfl ?_)
    refine wpAny_bind (wpAny_nextOf_tuple_end (I.ok.hd hc) hit p (by simp; omega) fun h' x hx1 hx2 => ?_)
    obtain ⟨o, ho, hc2⟩ := hx2
    refine wpAny_bind (wpAny_isInstance (T := "StopIteration") (b := true) ⟨o, ho, hc2⟩ isSubtype_stop ?_)
    exact wpAny_pure ⟨rfl, I.turned (t' := s.toks) (fun b o hb q => hx1 b o hb q) f0 f1 f3 f4 f5⟩
  self := fun A i s Q E ⟨⟨_, he⟩, _⟩ h => wpAny_pyIter_enum he h
set_option maxHeartbeats 8000000 in
theorem z2n {v : Value} {o : Obj} {S : Heap → Prop} (B : Begins v o S) :
    Meets (Builtin.«enumerate.__new__» ⟨[.type "enumerate", v], []⟩) (fun _ R s => S s.heap ∧
      R (.ok (.ret (.ref (s.heap.push o).objs.size))) { s with heap := (s.heap.push o).push { cls := .type "enumerate", data := .fields #[.none, .bool false, .ref s.heap.objs.size, rawInt 0, .none, .none] } }) :=
  .of_wp fun prog w A R s ⟨h1, h⟩ => by
    obtain ⟨hp, g, d, tk, os⟩ := s
    have hsub := sub_enumerate
    have q1 : ∀ {A' : Around} {E : Value → Shared → Prop} {Q : Value → Shared → Prop}, Q (.ref hp.objs.size) ⟨hp.push o, g, d, tk, os⟩ → wpAny (model prog w) A' (pyIter v) Q E ⟨hp, g, d, tk, os⟩ :=
      fun q => B.iter prog w _ _ ⟨hp, g, d, tk, os⟩ _ h1 q
    wp_walk using q1
    refine wpAny_stack_any fun st => wpAny_pure ?_
    split
    · rename_i c _ _ _ _ _
      cases (c == Value.type "enumerate")
      · wp_walk using q1
        exact ⟨_, rfl, h⟩
      · wp_walk using q1
        exact ⟨_, rfl, h⟩
    · wp_walk using q1
      exact ⟨_, rfl, h⟩
/-- enumerate(v) -/
theorem z4l {prog : Program} {w : World} {A : Around} {E : Value → Shared → Prop} {s : Shared} {v : Value} {o : Obj} {S : Heap → Prop} {Q : Value → Shared → Prop} (B : Begins v o S) (h1 : S s.heap)
    (h : ∀ h', IsEnum h' (s.heap.objs.size + 1) s.heap.objs.size 0 .none → h'.get? s.heap.objs.size = some o → (∀ b u, s.heap.get? b = some u → h'.get? b = some u) → Q (.ref (s.heap.objs.size + 1)) { s with heap := h' }) :
    wpAny (model prog w) A (call (.type "enumerate") [v]) Q E s := by
  refine callType_new F.called_enumerate (by decide) (F.typeCall_enumerate_1 _) (F.newCall_enumerate_1 _) (fun obj => F.args_object_init_2 obj _) F.entry_enumerate_new (z2n B) ⟨h1, ?_⟩
  have hz : (s.heap.push o).objs.size = s.heap.objs.size + 1 := Heap.size_push ..
  have he : IsEnum ((s.heap.push o).push { cls := .type "enumerate", data := .fields #[.none, .bool false, .ref s.heap.objs.size, rawInt 0, .none, .none] }) (s.heap.objs.size + 1) s.heap.objs.size 0 .none := by
    have q := Heap.get?_push_size (s.heap.push o) (o := { cls := .type "enumerate", data := .fields #[.none, .bool false, .ref s.heap.objs.size, rawInt 0, .none, .none] }) rfl
    rw [hz] at q; exact q
  show _ ∧ _
  rw [hz]
  exact ⟨⟨_, he, rfl⟩, h _ he (Heap.get?_push_of_some _ (Heap.get?_push_size _ B.free)) fun b u x => Heap.get?_push_of_some _ (Heap.get?_push_of_some _ x)⟩
section
variable {X : Cx}
theorem zwi [Bs] {e : Expr} {T : DTA} {p pos tpos : Pos} {elts : List Expr} {kk : Nat} (hm : X.mg "enumerate" = none) (ha : PAD X [e] T) (hg : Gl X "enumerate" := by rfl) (hs : starEach [e] X.env = [(false, eval e X.env)] := by rfl) :
    PID X (.Tuple elts kk tpos) (.Call (.Name "enumerate" p) [e] [] pos) (ztk T) := by
  refine ⟨fun pins s σ H R I ⟨η, G, P, hs', hr, t, k⟩ => ?_⟩
  refine Call_ (ld_blt I hg hm boot_enumerate (PyProof.Rows.callWith_type1 (thn (ha.run pos pins s σ H (fun vs H1 => ∃ ds G1, (match ds with
    | [d] => (match d with
      | .nd .tup xs => P (zli xs) zcm G1
      | .nd .lst xs => P (zli xs) zcm G1
      | .nd .scr xs => P (zli xs) zcm G1
      | _ => False)
    | _ => False) ∧ Ext H G H1 G1 ∧ HR X.ml H1 G1 ∧ VRs X.ml H1 G1 ds vs) I ⟨η, G, _, hs', hr, t, fun ds G1 vs H1 p x r q => ⟨ds, G1, p, x, r, q⟩⟩) fun us s1 ⟨vs, H1, I1, r1, ds, G1, p, x, r, q⟩ => ?_) hs rfl))
  match ds, p, q with
  | [d], p, q =>
    obtain ⟨v, r', rfl, q1, q2⟩ := q.uncons
    cases q2.nil_of
    obtain ⟨u, rfl, ru⟩ := r1.one
    have fin2 : ∀ b, b ∈ [s1.heap.objs.size + 1, s1.heap.objs.size] → FpOk X pins H1 b := fun b hb => by
      have hle : s1.heap.objs.size ≤ b := by
        rcases (by simpa using hb : b = s1.heap.objs.size + 1 ∨ b = s1.heap.objs.size) with z | z <;> omega
      exact I1.fpOk hle (I1.hok.fresh hle)
    have doL : ∀ (a : Addr) (ws : List V) (xs : List D), v = .ref a → SqL X.K H1 a ws → (∀ H G, Ext H1 G1 H G → HR X.ml H G → ∃ vs, SqL X.K H a vs ∧ VRs X.ml H G xs vs) → P (zli xs) zcm G1 →
        wpAny (model X.prog X.w) X.A (call (.type "enumerate") [u]) (fun v s1 => wpAny (model X.prog X.w) X.A (pyIter v) (PIE X pins σ (.Tuple elts kk tpos) R) X.xe s1) X.xe s1 := by
      intro a ws xs e hq hh p
      subst e
      cases ru
      obtain ⟨its, rv, p', hz⟩ := I1.list hq
      refine call_enumerate_list p'.isList fun h' he hit hsz hk => wpAny_pyIter_enum he ?_
      have I2 : Inv X pins σ H1 { s1 with heap := h' } := I1.kept (t' := s1.toks) hk
      exact ⟨s1.heap.objs.size + 1, [s1.heap.objs.size + 1, s1.heap.objs.size], _, _, H1, rfl, I2, turn_enum a (s1.heap.objs.size + 1) s1.heap.objs.size, ⟨⟨.none, he⟩, hit, Nat.succ_ne_self _⟩, fin2, k _ _ G1 _ H1 p x r (Ite.itD hh)⟩
    cases d with
    | nd kd xs =>
      rw [VR] at q1
      obtain ⟨a, ws, e, hq, vr⟩ := q1
      cases kd with
      | tup =>
        subst e
        cases ru
        obtain ⟨its, rv, p', hz⟩ := I1.tuple hq
        have p2 : s1.heap.IsTuple a its.toArray := p'
        have hal : a < s1.heap.objs.size := by obtain ⟨_, z, _⟩ := p2; exact Heap.lt_size z
        refine z4l (begins_tuple a its.toArray) p2 fun h' he hit hk => wpAny_pyIter_enum he ?_
        have I2 : Inv X pins σ H1 { s1 with heap := h' } := I1.kept (t' := s1.toks) hk
        exact ⟨s1.heap.objs.size + 1, [s1.heap.objs.size + 1, s1.heap.objs.size], _, _, H1, rfl, I2, z5y a (s1.heap.objs.size + 1) s1.heap.objs.size (Nat.ne_of_lt hal), ⟨⟨.none, he⟩, ⟨_, hit, rfl, rfl⟩, Nat.succ_ne_self _, Nat.ne_of_gt (Nat.lt_succ_of_lt hal)⟩, fin2,
          k _ _ G1 _ H1 p x r (IteT.itD fun H' G' x' r' => ⟨ws, Held.ext (k := .tup) r x' hq, vr.ext r x'⟩)⟩
      | lst => exact doL a ws xs e (zdt hq (.inl rfl)) (fun H' G' x' r' => ⟨ws, zdt (hq.ext r x') (.inl rfl), vr.ext r x'⟩) p
      | scr => exact doL a ws xs e (zdt hq (.inr rfl)) (fun H' G' x' r' => ⟨ws, zdt (hq.ext r x') (.inr rfl), vr.ext r x'⟩) p
      | _ => exact p.elim
    | _ => exact p.elim
  | [], p, _ => exact p.elim
  | _ :: _ :: _, p, _ => exact p.elim
end
end DL
namespace DL
open PySem PySem.Spec PyProof.Rows L2
end DL
namespace DL
open PySem PySem.Spec PyProof.Rows L2
def zipL (xs ys : List D) : List D := List.zipWith (fun a b => D.nd .tup [a, b]) xs ys
def z8k (T : DTA) : DTI := fun η G R => T η G fun ds G1 => match ds with
  | [.nd .tup xs, .nd .tup ys] => R (zipL xs ys) zcm G1
  | [.nd .lst xs, .nd .lst ys] => R (zipL xs ys) zcm G1
  | _ => False
theorem z0v {xs ys : List D} {i : Nat} {d : D} (h : (zipL xs ys)[i]? = some d) : ∃ x y, xs[i]? = some x ∧ ys[i]? = some y ∧ d = .nd .tup [x, y] := by
  unfold zipL at h
  rw [List.getElem?_zipWith] at h
  cases e1 : xs[i]? with
  | none => rw [e1] at h; cases h
  | some x =>
    cases e2 : ys[i]? with
    | none => rw [e1, e2] at h; cases h
    | some y => rw [e1, e2] at h; cases h; exact ⟨x, y, rfl, rfl, rfl⟩
theorem zyk {xs ys : List D} {i : Nat} (h : (zipL xs ys).length ≤ i) : xs.length ≤ i ∨ ys.length ≤ i := by
  unfold zipL at h
  rw [List.length_zipWith] at h
  omega
theorem ItzT.itD {K : Ml} {H1 : Hp} {G1 : DHp} {a b : Addr} {xs ys : List D} (h : ∀ H G, Ext H1 G1 H G → HR K H G → ∃ vs ws, SqT K.K H a vs ∧ SqT K.K H b ws ∧ VRs K H G xs vs ∧ VRs K H G ys ws) : ItD K H1 G1 (RZ.ItzT K.K a b) (zipL xs ys) zcm := by
  intro i H G x r o
  obtain ⟨vs, ws, qa, qb, va, vb⟩ := h H G x r
  refine ⟨fun d e => ?_, fun l => ⟨vs, ws, qa, qb, by rw [va.length, vb.length]; exact zyk l⟩⟩
  obtain ⟨p, q, e1, e2, rfl⟩ := z0v e
  obtain ⟨u, g1, r1⟩ := va.get e1
  obtain ⟨u2, g2, r2⟩ := vb.get e2
  refine ⟨⟨vs, ws, u, u2, qa, qb, g1, g2⟩, fun y H' ⟨T, z1, z2, e3, hT, e5, k1, k2⟩ => ?_⟩
  subst e3 e5
  have e6 := k1 vs qa
  have e7 := k2 ws qb
  rw [g1] at e6; cases e6
  rw [g2] at e7; cases e7
  have x2 : Ext H G (upd H T (.tup [u, u2])) G := .laid hT
  refine ⟨x2, r.laid hT, ?_⟩
  rw [VR]
  exact ⟨T, _, rfl, .inl (.inl upd_same), .cons (r1.ext r x2) (.cons (r2.ext r x2) .nil)⟩
theorem Itz.itD {K : Ml} {H1 : Hp} {G1 : DHp} {a b : Addr} {xs ys : List D} (h : ∀ H G, Ext H1 G1 H G → HR K H G → ∃ vs ws, SqL K.K H a vs ∧ SqL K.K H b ws ∧ VRs K H G xs vs ∧ VRs K H G ys ws) : ItD K H1 G1 (Itz K.K a b) (zipL xs ys) zcm := by
  intro i H G x r o
  obtain ⟨vs, ws, qa, qb, va, vb⟩ := h H G x r
  refine ⟨fun d e => ?_, fun l => ⟨vs, ws, qa, qb, by rw [va.length, vb.length]; exact zyk l⟩⟩
  obtain ⟨p, q, e1, e2, rfl⟩ := z0v e
  obtain ⟨u, g1, r1⟩ := va.get e1
  obtain ⟨u2, g2, r2⟩ := vb.get e2
  refine ⟨⟨vs, ws, u, u2, qa, qb, g1, g2⟩, fun y H' ⟨T, z1, z2, e3, hT, e5, k1, k2⟩ => ?_⟩
  subst e3 e5
  have e6 := k1 vs qa
  have e7 := k2 ws qb
  rw [g1] at e6; cases e6
  rw [g2] at e7; cases e7
  have x2 : Ext H G (upd H T (.tup [u, u2])) G := .laid hT
  refine ⟨x2, r.laid hT, ?_⟩
  rw [VR]
  exact ⟨T, _, rfl, .inl (.inl upd_same), .cons (r1.ext r x2) (.cons (r2.ext r x2) .nil)⟩
section
variable {X : Cx}
theorem z7q [Bs] {e e2 : Expr} {T : DTA} {p pos tpos : Pos} {elts : List Expr} {kk : Nat} (hm : X.mg "zip" = none) (ha : PAD X [e, e2] T) (hg : Gl X "zip" := by rfl)
    (hs : starEach [e, e2] X.env = (false, eval e X.env) :: starEach [e2] X.env := by rfl) (hpl : (backTo pos (starEach [e2] X.env)).any (·.1) = false := by rfl) :
    PID X (.Tuple elts kk tpos) (.Call (.Name "zip" p) [e, e2] [] pos) (z8k T) := by
  refine ⟨fun pins s σ H R I ⟨η, G, P, hs', hr, t, k⟩ => (RZ.pi_zipA hg hm ha hs hpl).run pins s σ H R I ⟨η, G, _, hs', hr, t, fun ds G1 vs H1 p x r q => ?_⟩⟩
  split at p
  · rename_i xs ys
    obtain ⟨v1, r1, rfl, a1, q1⟩ := q.uncons
    obtain ⟨v2, r2, rfl, a2, q2⟩ := q1.uncons
    cases q2.nil_of
    rw [VR] at a1 a2
    obtain ⟨a, ws, rfl, ha, va⟩ := a1
    obtain ⟨b, us, rfl, hb, vb⟩ := a2
    exact ⟨a, b, ws, us, rfl, .inr ⟨ha, hb, k _ _ G1 _ H1 p x r (ItzT.itD fun H' G' x' r' => ⟨ws, us, Held.ext (k := .tup) r x' ha, Held.ext (k := .tup) r x' hb, va.ext r x', vb.ext r x'⟩)⟩⟩
  · rename_i xs ys
    obtain ⟨v1, r1, rfl, a1, q1⟩ := q.uncons
    obtain ⟨v2, r2, rfl, a2, q2⟩ := q1.uncons
    cases q2.nil_of
    rw [VR] at a1 a2
    obtain ⟨a, ws, rfl, ha, va⟩ := a1
    obtain ⟨b, us, rfl, hb, vb⟩ := a2
    exact ⟨a, b, ws, us, rfl, .inl ⟨zdt ha (.inl rfl), zdt hb (.inl rfl), k _ _ G1 _ H1 p x r (Itz.itD fun H' G' x' r' => ⟨ws, us, zdt (ha.ext r x') (.inl rfl), zdt (hb.ext r x') (.inl rfl), va.ext r x', vb.ext r x'⟩)⟩⟩
  · exact p.elim
end
end DL
namespace DL
open PySem PySem.Spec PyProof.Rows L2
/-- the table of the built-in types, and of the classes cs by themselves -/
def znj (cs : List Addr) : Value → Value → Option Bool := fun t u => match t, u with
  | .type a, .type b => tyIs a b
  | .ref C, .ref B => if C = B ∧ C ∈ cs then some true else none
  | _, _ => none
theorem z5r {K : PySem.W.Frag} {cs : List Addr} (h : ∀ C ∈ cs, IsC K C) : z6w K (znj cs) := by
  intro t u b e
  cases t with
  | type a =>
    cases u with
    | type c => exact ⟨z4p e, fun C z => nomatch z⟩
    | _ => cases e
  | ref C =>
    cases u with
    | ref B =>
      have e : (if C = B ∧ C ∈ cs then some true else none) = some b := e
      by_cases q : C = B ∧ C ∈ cs
      · rw [if_pos q] at e
        cases e
        obtain ⟨rfl, hC⟩ := q
        refine ⟨?_, fun C' z => by cases z; exact h _ hC⟩
        unfold PySem.W.kitOne
        rw [if_pos (by simp)]
      · rw [if_neg q] at e; cases e
    | _ => cases e
  | _ => cases u <;> cases e
section
variable {cs : List Addr} {G : DHp} {Q : DVK}
theorem zy7 {i : Int} : (dIsi (znj cs)) [.int i, .ty "int"] G Q ↔ Q (.bl true) G := Iff.rfl
theorem zxy {i : Int} : (dIsi (znj cs)) [.int i, .ty "bool"] G Q ↔ Q (.bl false) G := Iff.rfl
theorem zfk {ds : List D} : (dIsi (znj cs)) [.nd .tup ds, .ty "tuple"] G Q ↔ Q (.bl true) G := Iff.rfl
theorem zw2 {C : Addr} {ns : List Str} {ds : List D} (h : C ∈ cs) : (dIsi (znj cs)) [.nd (.ins C ns) ds, .ref C] G Q ↔ Q (.bl true) G := by
  show (match (if C = C ∧ C ∈ cs then some true else none) with | some b => Q (.bl b) G | none => False) ↔ _
  rw [if_pos ⟨rfl, h⟩]
end
end DL
namespace DL
open PySem PySem.Spec PyProof.Rows L2
end DL
namespace DL
open PySem PySem.Spec PyProof.Rows L2
/-- the lists that stand in a list, each changed no more -/
def frL : List D → DHp → Option (List D × DHp)
  | [], G => some ([], G)
  | d :: ds, G => match d with
    | .ref p => (match G p with
      | some (.lst es) => (match frL ds (dl G p) with
        | some (x, G') => some (.nd .lst es :: x, G')
        | none => none)
      | _ => none)
    | _ => none
end DL
namespace DL
open PySem PySem.Spec PyProof.Rows L2
/-- what else is tracked, then the draws -/
abbrev Gw (G : DHp) (a : Addr) (ns : List Int) (c : Int) : DHp := up G a (drw ns c)
theorem zos {G : DHp} {a p : Addr} {ns : List Int} {c : Int} {o : DO} (h : Gw G a ns c p = none) : up (Gw G a ns c) p o = Gw (up G p o) a ns c ∧ a ≠ p := by
  have hn : a ≠ p := fun e => by
    subst e
    rw [show Gw G a ns c a = some (drw ns c) from zo] at h
    cases h
  exact ⟨(zol hn), hn⟩
theorem zlc {G : DHp} {a p : Addr} {ns : List Int} {c : Int} (hn : a ≠ p) (h : Gw G a ns c p = none) : G p = none := by
  rw [show Gw G a ns c p = G p from zq8 (Ne.symm hn)] at h
  exact h
theorem z16 {G : DHp} {a p : Addr} {ns : List Int} {c : Int} {o : DO} (hn : a ≠ p) (h : G p = none) : dl (Gw (up G p o) a ns c) p = Gw G a ns c := by
  show dl (up (up G p o) a _) p = _
  rw [zw0 hn, zc8 h]
theorem zx0 {G : DHp} {a p : Addr} {ns : List Int} {c : Int} {o o' : DO} (hn : a ≠ p) : up (Gw (up G p o) a ns c) p o' = Gw (up G p o') a ns c := by
  show up (up (up G p o) a _) p o' = _
  rw [zol (a := a) (b := p) hn, zfe]
theorem zig {G : DHp} {a p : Addr} {ns : List Int} {c : Int} {o : DO} (hn : a ≠ p) : Gw (up G p o) a ns c p = some o := by
  show up (up G p o) a _ p = _
  rw [zq8 (Ne.symm hn), zo]
theorem zbm {G : DHp} {a : Addr} {ns : List Int} {c n : Int} {Q : DVK} (hn : 0 < n) (hl : ns.length ≤ 63) (q : ∀ r : Int, 0 ≤ r → r < n → Q (.int r) (Gw G a ns (c + 1))) : zi [.ref a, .int n] (Gw G a ns c) Q :=
  z5w hn hl zo fun r h0 h1 => by rw [zfe]; exact q r h0 h1
theorem zz1 {x y : D} {xs ys : List D} {G : DHp} {Q : DVK} (h1 : der x G = .nd .lst xs) (h2 : der y G = .nd .lst ys) (hl : xs.length + ys.length ≤ sizeLine) (q : Q (.nd .lst (xs ++ ys)) G) : dAdd x y G Q := by
  unfold dAdd
  rw [h1, h2]
  exact ⟨hl, q⟩
theorem z7m {n : Nat} (h : n ≤ 1000000) : n ≤ sizeLine := Nat.le_of_lt (zb0 h)
theorem z3o {α : Type} [DecidableEq α] : ∀ {ys xs : List α}, ys.Nodup → (∀ y ∈ ys, y ∈ xs) → ys.length ≤ xs.length
  | [], _, _, _ => Nat.zero_le _
  | y :: ys, xs, hn, h => by
    rw [List.nodup_cons] at hn
    have hy := h y (by simp)
    have := z3o (ys := ys) (xs := xs.erase y) hn.2 fun z hz => (List.mem_erase_of_ne (show z ≠ y from fun e => hn.1 (e ▸ hz))).mpr (h z (by simp [hz]))
    rw [List.length_erase_of_mem hy] at this
    have := List.length_pos_of_mem hy
    rw [List.length_cons]
    omega
theorem zp6 {d : D} {ds : List D} {G : DHp} {Q : DVK} (h : sqD d G = some ds) : zo1 [d] G Q = Q (.nd .tup ds) G := by
  unfold zo1 d1
  simp only [h]
theorem z8q {p : Addr} {G : DHp} {ds : List D} (h : G p = some (.lst ds)) : lsD (.ref p) G = some ds := by
  unfold lsD
  rw [zvg h]
theorem z74 {x y : Bool} {G : DHp} {Q : DVK} (h : Q (.bl (x != y)) G) : dNe (.bl x) (.bl y) G Q := by
  refine ⟨⟨rfl, rfl, by show SeqAt.shaped (py (.bl x)) = true; rw [py]; rfl, by show SeqAt.shaped (py (.bl y)) = true; rw [py]; rfl⟩, ?_⟩
  show Q (.bl (!PyData.eqv (py (.bl x)) (py (.bl y)))) G
  rw [py, py, PyData.eqv]
  exact h
theorem z08 {α : Type} {f : α → D} {xs : List α} {G : DHp} {Q : DVK} : dLen [eL f xs] G Q = Q (.int xs.length) G := by
  rw [zn8 (ds := xs.map f) rfl, List.length_map]
theorem ztl {ds : List D} {i : Int} {d : D} {G : DHp} {Q : DVK} (h0 : 0 ≤ i) (e : ds[i.toNat]? = some d) (q : Q d G) : dIx (.nd .tup ds) (.int i) G Q := by
  show atD ds (.int i) fun d => Q d G
  exact zoa h0 e q
theorem zho {α : Type} {l : List α} {i : Nat} {x : α} (h : l[i]? = some x) : l.take (i + 1) = l.take i ++ [x] := by
  rw [List.take_add_one, h]; rfl
theorem zvd {α : Type} {f : α → D} {xs : List α} {G : DHp} {Q : DVK} : dLen [eT f xs] G Q = Q (.int xs.length) G := by
  rw [zn8 (ds := xs.map f) rfl, List.length_map]
/-- an item of a list or a tuple that stays -/
theorem z2d {α : Type} {f : α → D} {xs : List α} {i : Int} {x : α} {G : DHp} {Q : DVK} (h0 : 0 ≤ i) (e : xs[i.toNat]? = some x) (q : Q (f x) G) : dIx (eL f xs) (.int i) G Q := by
  show atD (xs.map f) (.int i) fun d => Q d G
  exact zoa h0 (by rw [List.getElem?_map, e]; rfl) q
/-- a list is not empty: of plain things with short depth -/
theorem z8s {x : D} {xs : List D} {G : DHp} {Q : DVK} (h : der x G = .nd .lst xs) (hc : cleans xs = true) (hd : ∀ d ∈ xs, (py d).depth ≤ 60) (q : Q (.bl (!xs.isEmpty)) G) : dNe x (.nd .lst []) G Q := by
  refine zyv (by rw [h]; rw [zbn]; exact hc) rfl (by rw [h]; exact Nat.le_trans (zxk hd) (by decide)) (by show (py (.nd .lst [])).depth ≤ 64; rw [py, pys]; decide) _ ?_ q
  rw [h]
  cases xs with
  | nil => simp [der]
  | cons d ds => simp [der]
theorem z63 {p : Addr} {xs : List Int} {G : DHp} {Q : DVK} (h : G p = some (.lst (xs.map .int))) (q : Q (.bl (!xs.isEmpty)) G) : dNe (.ref p) (.nd .lst []) G Q := by
  refine z8s (zvg h) (zhi (fun _ => rfl) xs) (fun d hd => ?_) ?_
  · obtain ⟨i, _, rfl⟩ := List.mem_map.mp hd
    rw [zev]; decide
  · rw [List.isEmpty_map]; exact q
end DL
namespace DL
open PySem PySem.Spec PyProof.Rows L2
end DL
namespace DL
open PySem PySem.Spec PyProof.Rows L2
/-- [y for x in xs if ..]: what is told of one x, pure, is told of all -/
theorem z0l {wi : DTI} {g : DTG} {tt : DTT} {te : DTE} {own : List Nat} {η : DSt} {G : DHp} {Q : DVK} {α : Type} {xs : List α} {f : α → D} (fb : α → Bool) (h : α → D) (hl : xs.length ≤ 1000000)
    (hw : ∀ R, R (xs.map f) zcm G → wi η G R)
    (hb : ∀ x ∈ xs, ∀ (G1 : DHp) (A : DVK) (B : DHp → Prop), (fb x = true → A (h x) G1) → (fb x = false → B G1) → g (f x) (zkn η own) G1 fun η2 G2 => tt η2 G2 fun b G3 => if b = true then te η2 G3 A else B G3)
    (q : ∀ p, G p = none → Q (.ref p) (up G p (.lst ((xs.filter fb).map h)))) : dLc wi g tt te own η G Q := by
  refine hw _ ?_
  intro p hp
  refine ⟨fun i acc G' => acc = ((xs.take i).filter fb).map h ∧ G' = up G p (.lst acc), ⟨rfl, rfl⟩, ?_, ?_, ?_⟩
  · rintro i acc G' ⟨rfl, rfl⟩
    exact ⟨trivial, zo⟩
  · rintro i d acc G' hd ⟨rfl, rfl⟩
    obtain ⟨x, hx, rfl⟩ := zcq hd
    refine hb x (List.mem_of_getElem? hx) _ _ _ (fun e => ⟨zb0 ?_, zo, ?_, by rw [zfe]⟩) fun e => ⟨?_, rfl⟩
    · rw [List.length_map]
      refine Nat.le_trans (List.length_filter_le _ _) ?_
      rw [List.length_take]
      omega
    · rw [zho hx, List.filter_append, List.map_append]
      simp [e]
    · rw [zho hx, List.filter_append, List.map_append]
      simp [e]
  · rintro acc G' ⟨rfl, rfl⟩
    rw [List.length_map, List.take_length]
    exact q p hp
/-- [y for x in xs] -/
theorem zjt {wi : DTI} {g : DTG} {te : DTE} {own : List Nat} {η : DSt} {G : DHp} {Q : DVK} {α : Type} {xs : List α} {f : α → D} (h : α → D) (hl : xs.length ≤ 1000000)
    (hw : ∀ R, R (xs.map f) zcm G → wi η G R)
    (hb : ∀ x ∈ xs, ∀ (G1 : DHp) (A : DVK), A (h x) G1 → g (f x) (zkn η own) G1 fun η2 G2 => te η2 G2 A)
    (q : ∀ p, G p = none → Q (.ref p) (up G p (.lst (xs.map h)))) : dLc wi g dYes te own η G Q := by
  refine z0l (f := f) (fun _ => true) h hl hw (fun x hx G1 A B a _ => ?_) fun p hp => ?_
  · have := hb x hx G1 A (a rfl)
    simpa only [dYes, if_true] using this
  · have := q p hp
    rwa [List.filter_eq_self.mpr fun _ _ => rfl]
theorem zkd {α : Type} {xs : List α} {b : α → Bool} {G : DHp} {Q : DVK} (q : Q (.bl (xs.all b)) G) : dAll [.nd .lst (xs.map fun x => .bl (b x))] G Q := by
  refine ⟨xs.map b, ?_, ?_⟩
  · show some _ = some _
    rw [List.map_map]; rfl
  · rw [List.all_map]; exact q
theorem z8o {α : Type} {xs : List α} {b : α → Bool} {G : DHp} {Q : DVK} (q : Q (.bl (xs.any b)) G) : dAny [.nd .lst (xs.map fun x => .bl (b x))] G Q := by
  refine ⟨xs.map b, ?_, ?_⟩
  · show some _ = some _
    rw [List.map_map]; rfl
  · rw [List.any_map]; exact q
theorem z4q (ds : List D) (k : Nat) : cutD ds (some (k : Int)) none = ds.drop k := by
  unfold cutD
  rw [HT.sIx_nat, HT.sIx_none]
  by_cases h : k ≤ ds.length
  · rw [Nat.min_eq_left h, List.take_of_length_le (by rw [List.length_drop]; exact Nat.le_refl _)]
  · rw [Nat.min_eq_right (by omega), List.drop_eq_nil_of_le (Nat.le_refl _), List.drop_eq_nil_of_le (by omega), List.take_nil]
theorem z5g (ds : List D) (k : Nat) : cutD ds none (some (k : Int)) = ds.take k := by
  unfold cutD
  rw [HT.sIx_nat, HT.sIx_none, List.drop_zero, Nat.sub_zero]
  by_cases h : k ≤ ds.length
  · rw [Nat.min_eq_left h]
  · rw [Nat.min_eq_right (by omega), List.take_of_length_le (Nat.le_refl _), List.take_of_length_le (by omega)]
end DL
namespace DL
open PySem PySem.Spec PyProof.Rows L2
end DL
namespace DL
open PySem PySem.Spec PyProof.Rows L2
end DL
namespace DL
open PySem PySem.Spec PyProof.Rows L2
end DL
namespace DL
open PySem PySem.Spec PyProof.Rows L2
end DL
namespace DL
open PySem PySem.Spec PyProof.Rows L2
end DL
namespace DL
open PySem PySem.Spec PyProof.Rows L2
end DL
namespace DL
open PySem PySem.Spec PyProof.Rows L2
end DL
namespace DL
open PySem PySem.Spec PyProof.Rows L2
end DL
namespace DL
open PySem PySem.Spec PyProof.Rows L2
end DL
namespace DL
open PySem PySem.Spec PyProof.Rows L2
end DL
namespace DL
open PySem PySem.Spec PyProof.Rows L2
theorem zaay {wi : DTI} {g : DTG} {tt : DTT} {te : DTE} {own : List Nat} {η : DSt} {Q : DVK} {α : Type} {xs : List α} {f : α → D} {G0 : DHp} {a : Addr} {ns : List Int} {c : Int} (h : α → D) (hl : xs.length ≤ 1000000)
    (hw : ∀ R, R (xs.map f) zcm (Gw G0 a ns c) → wi η (Gw G0 a ns c) R)
    (hb : ∀ x ∈ xs, ∀ (G1 : DHp) (c1 : Int) (A : DVK) (B : DHp → Prop), (∀ c2, A (h x) (Gw G1 a ns c2)) → (∀ c2, B (Gw G1 a ns c2)) → g (f x) (zkn η own) (Gw G1 a ns c1) fun η2 G2 => tt η2 G2 fun b G3 => if b = true then te η2 G3 A else B G3)
    (q : ∀ ys : List α, ys.Sublist xs → ∀ c' p, Gw G0 a ns c' p = none → Q (.ref p) (up (Gw G0 a ns c') p (.lst (ys.map h)))) : dLc wi g tt te own η (Gw G0 a ns c) Q := by
  refine hw _ ?_
  intro p hp
  obtain ⟨e, hap⟩ := zos (o := .lst []) hp
  refine ⟨fun i acc G' => ∃ (ys : List α) (c' : Int), ys.Sublist (xs.take i) ∧ acc = ys.map h ∧ G' = Gw (up G0 p (.lst acc)) a ns c', ⟨[], c, List.nil_sublist _, rfl, e⟩, ?_, ?_, ?_⟩
  · rintro i acc G' ⟨ys, c', hs, rfl, rfl⟩
    exact ⟨trivial, zig hap⟩
  · rintro i d acc G' hd ⟨ys, c', hs, rfl, rfl⟩
    obtain ⟨x, hx, rfl⟩ := zcq hd
    refine hb x (List.mem_of_getElem? hx) _ _ _ _ (fun c2 => ⟨zb0 ?_, zig hap, ys ++ [x], c2, ?_, by rw [List.map_append]; rfl, zx0 hap⟩) fun c2 => ⟨ys, c2, ?_, rfl, rfl⟩
    · rw [List.length_map]
      have := hs.length_le
      rw [List.length_take] at this
      omega
    · rw [zho hx]
      exact hs.append (List.Sublist.refl _)
    · rw [zho hx]
      exact hs.trans (List.sublist_append_left _ _)
  · rintro acc G' ⟨ys, c', hs, rfl, rfl⟩
    rw [List.length_map, List.take_length] at hs
    have hn : Gw G0 a ns c' p = none := by
      have := zlc hap hp
      show up G0 a _ p = none
      rw [zq8 (Ne.symm hap)]
      exact this
    have e2 : Gw (up G0 p (.lst (ys.map h))) a ns c' = up (Gw G0 a ns c') p (.lst (ys.map h)) := by
      show up (up G0 p _) a _ = up (up G0 a _) p _
      exact zol (Ne.symm hap)
    rw [e2]
    exact q ys hs c' p hn
end DL
namespace DL
open PySem PySem.Spec PyProof.Rows L2
end DL
namespace DL
open PySem PySem.Spec PyProof.Rows L2
end DL
namespace DL
open PySem PySem.Spec PyProof.Rows L2
theorem zu4 {x : Str} (h : PyData.strOk x = true) : SeqAt.shaped (.str x) = true := by
  unfold SeqAt.shaped
  rw [PyData.canLay0, h, PyData.depth]
  rfl
theorem zfi {x y : Str} {G : DHp} {Q : DVK} (hx : PyData.strOk x = true) (hy : PyData.strOk y = true) (b : Bool) (hb : (x == y) = b) (q : Q (.bl b) G) : dEq (.str x) (.str y) G Q := by
  refine ⟨⟨rfl, rfl, ?_, ?_⟩, ?_⟩
  · show SeqAt.shaped (py (.str x)) = true
    rw [py]; exact zu4 hx
  · show SeqAt.shaped (py (.str y)) = true
    rw [py]; exact zu4 hy
  · show Q (.bl (PyData.eqv (py (.str x)) (py (.str y)))) G
    rw [py, py, PyData.eqv, hb]
    exact q
end DL
namespace DL
open PySem PySem.Spec PyProof.Rows L2
section
variable {K : Ml} {H H' : Hp} {G : DHp}
theorem zpe (e : L2.Ext H H') : DL.Ext H G H' G := ⟨fun a u h n => ⟨e a u h, n⟩⟩
theorem HR.grow (hr : HR K H G) (e : L2.Ext H H') : HR K H' G := fun a o h => by
  obtain ⟨u, hu⟩ := (hr a o h).some
  exact OR.ext hr (zpe e) (by rw [e a u hu, hu]) (hr a o h)
end
/-- trees that are compared: flat things, tuples of such, instances that P tells -/
def SmT (P : D → Prop) : Nat → D → Prop
  | 0, d => d = .non ∨ (∃ i, d = .int i) ∨ ∃ x, d = .str x
  | n + 1, d => SmT P n d ∨ (∃ ds, d = .nd .tup ds ∧ ∀ e ∈ ds, SmT P n e) ∨ P d
def DSm (K : Ml) (P : D → Prop) (n : Nat) : Eqv := fun x y H => ∃ G d, HR K H G ∧ VR K H G d x ∧ VR K H G d y ∧ SmT P n d
theorem z6h {K : Ml} {P : D → Prop} {n : Nat} : Mon (DSm K P n) := fun x y H H' e ⟨G, d, hr, q1, q2, t⟩ => ⟨G, d, hr.grow e, q1.ext hr (zpe e), q2.ext hr (zpe e), t⟩
/-- a class with an own ==, that says True of the same tree -/
structure EqC (X : Cx) (m : Nat) (C : Addr) (P : D → Prop) : Prop where
  own : ∃ f fd ps sp, FnD X.prog X.w X.K X.mg X.base m f fd ps sp ∧ (∀ d G (Q : DVK), P d → Q (.bl true) G → sp [d, d] G Q) ∧ Meth X.K C "__eq__" f ∧ Binds X.K fd ps []
  ins : ∀ d, P d → ∃ fs ds, d = .nd (.ins C fs) ds
section
variable {X : Cx} {m : Nat} {C : Addr} {P : D → Prop}
theorem zyz {K : Ml} {H : Hp} {G : DHp} {n : Nat} (hr : HR K H G) : ∀ {ds : List D} {vs ws : List V}, VRs K H G ds vs → VRs K H G ds ws → (∀ e ∈ ds, SmT P n e) → Prs (DSm K P n) vs ws H
  | [], vs, ws, r1, r2, _ => by rw [VRs.nil_of r1, VRs.nil_of r2]; exact .nil
  | d :: ds, vs, ws, r1, r2, h => by
    obtain ⟨v, vs', rfl, q1, r1⟩ := r1.uncons
    obtain ⟨w, ws', rfl, q2, r2⟩ := r2.uncons
    exact Prs.cons ⟨G, d, hr, q1, q2, h d (by simp)⟩ (zyz hr r1 r2 fun e he => h e (by simp [he]))
def noG : DHp := fun _ => none
theorem HR.none_ {K : Ml} {H : Hp} : HR K H noG := fun a o h => by cases h
theorem Held.loose {K : Ml} {H : Hp} {G : DHp} {k : Kd} {a : Addr} {vs : List V} (h : Held K H G k a vs) : Held K H noG k a vs := by
  cases k with
  | tup => exact h
  | lst => exact ⟨rfl, h.2⟩
  | scr => exact h
  | ins C fs => exact ⟨rfl, h.2⟩
  | dK ks => exact h
  | dN ks => exact ⟨rfl, h.2⟩
mutual
theorem VR.loose {K : Ml} {H : Hp} {G : DHp} : ∀ {d : D} {v : V}, VR K H G d v → VR K H noG d v
  | .non, v, h => by rw [VR] at h ⊢; exact h
  | .bl b, v, h => by rw [VR] at h ⊢; exact h
  | .int i, v, h => by rw [VR] at h ⊢; exact h
  | .str x, v, h => by rw [VR] at h ⊢; exact h
  | .ty n, v, h => by rw [VR] at h ⊢; exact h
  | .ref a, v, h => by rw [VR] at h ⊢; exact h
  | .nd k ds, v, h => by
    rw [VR] at h ⊢
    obtain ⟨a, vs, e, hh, r⟩ := h
    exact ⟨a, vs, e, hh.loose, VRs.loose r⟩
theorem VRs.loose {K : Ml} {H : Hp} {G : DHp} : ∀ {ds : List D} {vs : List V}, VRs K H G ds vs → VRs K H noG ds vs
  | [], vs, h => by rw [VRs] at h ⊢; exact h
  | d :: ds, vs, h => by
    rw [VRs] at h ⊢
    obtain ⟨v, r, e, q, t⟩ := h
    exact ⟨v, r, e, VR.loose q, VRs.loose t⟩
end
def RSm (K : Ml) (P : D → Prop) (a b : Addr) (H : Hp) : Prop := ∃ d, VR K H noG d (.ref a) ∧ VR K H noG d (.ref b) ∧ P d
theorem z7i (hc : EqC X m C P) : EqG X m (DIns C (RSm X.ml P)) := by
  obtain ⟨f, fd, ps, sp, F, hsp, me, hb⟩ := hc.own
  have F' : FnOk X.prog X.w X.K X.mg X.base CX0 m f fd ps (spEq (RSm X.ml P)) := F.imp fun vs H Q E ⟨a, b, e, ⟨d, q1, q2, p⟩, k⟩ => by
    subst e
    exact ⟨[d, d], noG, fun x G' => x = .bl true, .cons q1 (.cons q2 .nil), .none_, hsp d noG _ p rfl, fun x G' v H' e1 xx rr qq => by
      subst e1
      rw [VR] at qq
      subst qq
      exact k H' fun a o h => (xx.ex a o h rfl).1⟩
  exact eqG_ins (E := fun _ _ _ => False) F' me.at_ me.fn hb z1z
theorem z4s {K : Ml} {H : Hp} {G : DHp} {d : D} {x y : V} (t : d = .non ∨ (∃ i, d = .int i) ∨ ∃ z, d = .str z) (q1 : VR K H G d x) (q2 : VR K H G d y) : DFlat x y H := by
  rcases t with rfl | ⟨i, rfl⟩ | ⟨z, rfl⟩
  · rw [VR] at q1 q2; subst q1 q2; exact ⟨rfl, rfl, rfl⟩
  · rw [VR] at q1 q2; subst q1 q2; exact ⟨rfl, rfl, by simp [eqV]⟩
  · rw [VR] at q1 q2; subst q1 q2; exact ⟨rfl, rfl, by simp [eqV]⟩
theorem z6e (hc : EqC X m C P) : ∀ n, EqG X (n + m) (DSm X.ml P n)
  | 0 => (eqG_flat.mono (Nat.zero_le _)).imp fun x y H ⟨G, d, hr, q1, q2, t⟩ => z4s t q1 q2
  | n + 1 => by
    have ih := z6e hc n
    have e1 : EqG X (n + 1 + m) (DTup X.K (DSm X.ml P n)) := (eqG_tup z6h ih).mono (by omega)
    have e2 : EqG X (n + 1 + m) (DIns C (RSm X.ml P)) := (z7i hc).mono (by omega)
    refine ((ih.mono (by omega)).or (e1.or e2)).imp fun x y H ⟨G, d, hr, q1, q2, t⟩ => ?_
    rcases t with t | ⟨ds, rfl, t⟩ | p
    · exact .inl ⟨G, d, hr, q1, q2, t⟩
    · rw [VR] at q1 q2
      obtain ⟨a, vs, rfl, h1, r1⟩ := q1
      obtain ⟨b, ws, rfl, h2, r2⟩ := q2
      exact .inr (.inl ⟨a, b, vs, ws, rfl, rfl, h1, h2, zyz hr r1 r2 t⟩)
    · obtain ⟨fs, ds, rfl⟩ := hc.ins d p
      have q1' := q1.loose
      have q2' := q2.loose
      rw [VR] at q1 q2
      obtain ⟨a, vs, rfl, ⟨_, _, dx, h1⟩, r1⟩ := q1
      obtain ⟨b, ws, rfl, ⟨_, _, dy, h2⟩, r2⟩ := q2
      exact .inr (.inr ⟨a, b, dx, dy, _, _, rfl, rfl, h1, h2, _, q1', q2', p⟩)
/-- two tuples that are the same tree -/
def zaab (P : D → Prop) (n : Nat) : DR2 := fun x y G Q => (∃ ds, x = .nd .tup ds ∧ y = .nd .tup ds ∧ ∀ e ∈ ds, SmT P n e) ∧ Q (.bl true) G
theorem z66 {n : Nat} (hr : Room (n + m + 1) X.A) (hc : EqC X m C P) : OpD X (compareOp .Eq) (zaab P n) := fun pins s σ H x y v u Q I rx ry ⟨dx, dy, G, R, hh, q1, q2, ⟨⟨ds, e1, e2, t⟩, p⟩, k⟩ => by
  subst e1 e2
  refine op_eqG (rcG_tup z6h (z6e hc n)) hr pins s σ H x y v u Q I rx ry ⟨?_, fun H' e => k (.bl true) G (.bl true) H' p (zpe e) (hh.grow e) (by rw [VR])⟩
  rw [VR] at q1 q2
  obtain ⟨a, vs, rfl, h1, r1⟩ := q1
  obtain ⟨b, ws, rfl, h2, r2⟩ := q2
  exact ⟨a, b, vs, ws, rfl, rfl, h1, h2, zyz hh r1 r2 t⟩
end
end DL
namespace DL
open PySem PySem.Spec PyProof.Rows L2
section
variable {P : Program} {w : World} {A : Around} {E : Value → Shared → Prop} {s : Shared}
/-- set(xs), xs a tuple -/
theorem zwo {l : Addr} {items : Array Value} (ks : List (Addr × List Int)) {Q : Value → Shared → Prop} (hh : A.handled = none) (hl : s.heap.IsTuple l items) (hit : items.toList = ks.map fun p => Value.ref p.1)
    (hk : ∀ p ∈ ks, IsT P w s.heap p.2 p.1) (hfew : ks.length < 64) (hu : A.units + 3 < cLine)
    (h : ∀ (h' : Heap) (tk : Nat) L es ep t, SetTR P w h' s.heap.objs.size L es ep t → Got ks ks.length L → (∀ b o, s.heap.get? b = some o → h'.get? b = some o) → Q (.ref s.heap.objs.size) { s with heap := h', toks := tk }) :
    wpAny (model P w) A (call (.type "set") [.ref l]) Q E s := by
  have hisz : items.size = ks.length := by
    have q := congrArg List.length hit
    rw [Array.length_toList, List.length_map] at q
    exact q
  obtain ⟨c, tl, hmro⟩ := F.called_set.mro
  have hmade := F.called_set.made
  have hsub := F.called_set.sub
  refine wpAny_call (codeAny_of_tree ?_)
  show wpAny _ _ (callAny (.type "set") _) _ _ _
  refine wpAny_pure ⟨Code.quiet_builtin _ (by decide +kernel), codeAny_builtin F.entry_type_call ?_⟩
  rw [Around.under_plain (weight_type_call_type "set" [.ref l] []) rfl]
  have h1 := F.called_set.notType
  have h2 := F.called_set.canCreate
  have hct := F.typeCall_set_1 (.ref l)
  repeat (any_goals (first | assumption | wp_step))
  refine codeAny_mono (code_set_led1 (.ref l) (E := E) (Q₁ := fun obj s₁ => obj = .ref s.heap.objs.size ∧ s₁ = { s with heap := s.heap.push { cls := .type "set", dict := none, data := .set #[] 0 (.fresh 0 0 (!w.params.followText "set-order")) } }) ⟨rfl, rfl⟩) fun r s₁ hr => ?_
  cases r with
  | error e => exact hr
  | ok fl =>
    cases fl with
    | ret obj =>
      obtain ⟨rfl, rfl⟩ := hr
      have hS : (s.heap.push { cls := .type "set", dict := none, data := .set #[] 0 (.fresh 0 0 (!w.params.followText "set-order")) }).get? s.heap.objs.size = some { cls := .type "set", dict := none, data := .set #[] 0 (.fresh 0 0 (!w.params.followText "set-order")) } := Heap.get?_push_size _ rfl
      have hT : Shared.TypeIs { s with heap := s.heap.push { cls := .type "set", dict := none, data := .set #[] 0 (.fresh 0 0 (!w.params.followText "set-order")) } } (.ref s.heap.objs.size) "set" := ⟨_, hS, rfl⟩
      have hli := F.called_set.init.lookup
      have hbi := F.called_set.init.bind (.ref s.heap.objs.size)
      repeat (any_goals (first | assumption | wp_step))
      refine codeAny_mono (codeAny_call_builtin (R := wants (fun r s₂ => r = .none ∧ ∃ h' tk L es ep t, s₂ = { s with heap := h', toks := tk } ∧ SetTR P w h' s.heap.objs.size L es ep t ∧ Got ks ks.length L ∧
          (∀ b o, s.heap.get? b = some o → h'.get? b = some o)) E) F.called_set.init.plain F.entry_set_init (check_set_init_1 hT ?_)) fun r₂ s₂ hr₂ => ?_
      · obtain ⟨ol, hol, hcl, nl, hdl⟩ := hl
        obtain ⟨ocls, odict, odata, oslots⟩ := ol
        simp only at hcl hdl
        subst hcl; subst hdl
        have hol' : (s.heap.push { cls := .type "set", dict := none, data := .set #[] 0 (.fresh 0 0 (!w.params.followText "set-order")) }).get? l = some { cls := .type "tuple", dict := odict, data := .seq items nl, slots := oslots } := Heap.get?_push_of_some _ hol
        have hsls := F.sub_tuple_set
        have hslf := F.sub_tuple_frozenset
        have hne : (Value.type "tuple" == Value.type "dict") = false := by decide
        have hl1 : (s.heap.push { cls := .type "set", dict := none, data := .set #[] 0 (.fresh 0 0 (!w.params.followText "set-order")) }).IsTuple l items := ⟨_, hol', rfl, nl, rfl⟩
        unfold Builtin.«set.__init__» noKeywords Builtin.Frozenset.updateFrom
        generalize hPI : pyIter = PI
        wp_walk
        subst hPI
        refine wpAny_pyIter_tuple hl1 ?_
        refine wpAny_bind (wpAny_runValue ?_)
        have hlS : l < s.heap.objs.size := Heap.lt_size hol
        have hh3 : A.in1.in1.in1.handled = none := by simp [hh]
        have hz1 : (s.heap.push { cls := .type "set", dict := none, data := .set #[] 0 (.fresh 0 0 (!w.params.followText "set-order")) }).objs.size = s.heap.objs.size + 1 := Heap.size_push ..
        have hneI : l ≠ (s.heap.push { cls := .type "set", dict := none, data := .set #[] 0 (.fresh 0 0 (!w.params.followText "set-order")) }).objs.size := by
          rw [Heap.size_push]; exact Nat.ne_of_lt (Nat.lt_succ_of_lt hlS)
        have hSf : s.heap.objs.size ∉ [(s.heap.push { cls := .type "set", dict := none, data := .set #[] 0 (.fresh 0 0 (!w.params.followText "set-order")) }).objs.size, l] := by
          rw [Heap.size_push]; simp only [List.mem_cons, List.mem_singleton, List.not_mem_nil, or_false, not_or]
          exact ⟨Nat.ne_of_lt (Nat.lt_succ_self _), Nat.ne_of_gt hlS⟩
        have hval : ∀ (i : Nat) (v : Value), items[i]? = some v → ∃ p, ks[i]? = some p ∧ v = .ref p.1 := fun i v hv => by
          have q : items.toList[i]? = some v := by rw [Array.getElem?_toList]; exact hv
          rw [hit, List.getElem?_map] at q
          cases hq : ks[i]? with
          | none => rw [hq] at q; cases q
          | some p =>
            rw [hq] at q
            exact ⟨p, rfl, (Option.some.inj q).symm⟩
        have none_of : ∀ b, s.heap.objs.size ≤ b → s.heap.get? b = none := fun b hb => by
          cases q : s.heap.get? b with
          | none => rfl
          | some o => exact absurd (Nat.lt_of_lt_of_le (Heap.lt_size q) hb) (Nat.lt_irrefl _)
        refine set_update_tups ((Walks.tuple hh3 _ l hneI items).toS) s.heap.objs.size
          hSf ks hisz hfew hval s.heap hk (none_of _ (Nat.le_refl _)) (fun b hb => none_of b (by
            rw [List.mem_singleton.mp hb, Heap.size_push]
            exact Nat.le_succ _)) hu (items.size - 0) 0 _ (by omega) (Nat.zero_le _)
          ⟨⟨_, Heap.get?_push_size _ rfl, rfl, rfl⟩, (hl1.push _)⟩ (fun b o e => Heap.get?_push_of_some _ (Heap.get?_push_of_some _ e)) ?hS0 ?hR
        case hS0 =>
          have hget : ((s.heap.push { cls := .type "set", dict := none, data := .set #[] 0 (.fresh 0 0 (!w.params.followText "set-order")) }).push { cls := .type "tuple_iterator", data := .fields #[.ref l, .int 0 0] }).get? s.heap.objs.size
              = some { cls := .type "set", dict := none, data := .set #[] 0 (.fresh 0 0 (!w.params.followText "set-order")) } := Heap.get?_push_of_some _ hS
          exact ⟨[], #[], 0, _, setTR_fresh hget, Got.zero ks⟩
        case hR =>
          intro s' L es ep t hm hS' g' hkp
          obtain ⟨h', g2, d', tk', os'⟩ := s'
          have eg : g2 = s.gens := hm.gens
          have ed : d' = s.drawn := hm.drawn
          have eo : os' = s.os := hm.os
          subst eg; subst ed; subst eo
          show wpAny _ _ _ _ _ _
          refine wpAny_pure ?_
          show wpAny _ _ (ret Value.none) _ _ _
          rw [hisz] at g'
          exact wpAny_pure ⟨rfl, h', tk', L, es, ep, t, rfl, hS', g', hkp⟩
      · cases r₂ with
        | error e => exact hr₂
        | ok fl₂ =>
          cases fl₂ with
          | ret r =>
            obtain ⟨rfl, h', tk, L, es, ep, t, rfl, hS', g', hk'⟩ := hr₂
            repeat (any_goals (first | assumption | wp_step))
            exact h _ _ _ _ _ _ hS' g' hk'
          | _ => exact hr₂.elim
    | _ => exact hr.elim
theorem z4u : ∀ a b : List Int, PySem.W.alike (py (eR a)) (py (eR b)) = true := by
  intro a b
  unfold eR
  rw [py, py, PySem.W.alike]
  induction a generalizing b with
  | nil => rw [List.map_nil, pys, PySem.W.alikeAll]
  | cons x a ih => cases b with
    | nil => rw [List.map_nil, pys, List.map_cons, pys, PySem.W.alikeAll]
    | cons y b =>
      rw [List.map_cons, pys, List.map_cons, pys, PySem.W.alikeAll, ih b, py, py, PySem.W.alike]
      rfl
theorem z53 (a : List Int) : (py (eR a)).depth ≤ 1 := zou (B := 0) fun d hd => by
  obtain ⟨i, _, rfl⟩ := List.mem_map.mp hd
  exact Nat.le_of_eq (zev _)
theorem zy0 {a : Addr} {L : List (Addr × List Int)} {es : Array (Int × Value)} {ep : Nat} {t : SetTable} {Q : Value → Shared → Prop} (R : SetTR P w s.heap a L es ep t) (hh : A.handled = none) (hu : A.units + 64 < cLine)
    (hn : ∀ q ∈ L, q.2 ≠ []) (hr : ∀ q ∈ L, ∃ rs, Reads s.heap (.ref q.1) (py (eR q.2)) rs)
    (hQ : ∀ s' p (out : List Value) (c : Nat) (L' : List (Addr × List Int)), (∀ b o, s.heap.get? b = some o → s'.heap.get? b = some o) → s'.gens = s.gens → s'.os = s.os → s.heap.objs.size ≤ p →
      s'.heap.get? p = some (seqObj "list" (List.toArray out) c) → out.length = L'.length → L'.Perm L → PySem.W.EachIs (fun u d => ∃ q ∈ L, u = Value.ref q.1 ∧ d = eR q.2) out (srt (L'.map fun q => eR q.2)) → Q (.ref p) s') :
    wpAny (model P w) A (call (.builtin "sorted") [.ref a]) Q E s := by
  obtain ⟨o, ho, hex, hd⟩ := R.ob
  have hsz := R.size
  have hfew := R.few
  refine Calls.call_function_entry kind_sorted plain_sorted entry_sorted (args_sorted1 _) ?_
  unfold Builtin.«sorted»
  refine wpAny_bind (m := checkCount "sorted" 1 1 _) (wpAny_pure ?_)
  refine wpAny_bind (collect_set (A := A.in1) hh ⟨o, ho, hex.1, hd⟩ R.fits (by unfold scanBound; omega) R.tab.ris R.led fun s1 vs k1 hz g1 o1 pm => ?_)
  have hes : es.toList.map (·.2) = L.map fun q => Value.ref q.1 := by
    rw [R.rows]
    unfold rowsOf
    rw [List.map_map] <;> rfl
  rw [hes] at pm
  have ord : ∀ vs : List Value, (∀ v ∈ vs, ∃ q ∈ L, v = Value.ref q.1) → ∃ L1 : List (Addr × List Int), vs = L1.map (fun q => Value.ref q.1) ∧ ∀ q ∈ L1, q ∈ L := by
    intro vs
    induction vs with
    | nil => intro _; exact ⟨[], rfl, fun q hq => (by cases hq)⟩
    | cons v vs ih =>
      intro hv
      obtain ⟨q, hq, e⟩ := hv v List.mem_cons_self
      obtain ⟨L1, e1, hs⟩ := ih fun u hu => hv u (List.mem_cons_of_mem _ hu)
      refine ⟨q :: L1, by rw [List.map_cons, e, e1], fun r hr => ?_⟩
      rcases List.mem_cons.mp hr with z | z
      · rw [z]; exact hq
      · exact hs r z
  have one : ∀ q ∈ L, ∀ r ∈ L, q.1 = r.1 → q = r := fun q hq r hr e => by
    have a1 := R.tup q hq
    have a2 := R.tup r hr
    rw [e] at a1
    have e2 : q.2 = r.2 := a1.inj a2
    exact Prod.ext e e2
  have perm_of : ∀ L1 : List (Addr × List Int), (∀ q ∈ L1, q ∈ L) → (L1.map (fun q => Value.ref q.1)).Perm (L.map fun q => Value.ref q.1) → L1.Perm L := by
    intro L1 hs pm1
    have nL : L.Nodup := nodup_of_map R.nd
    have nref : (L.map fun q => Value.ref q.1).Nodup := by
      refine List.pairwise_map.mpr (List.Pairwise.imp_of_mem (fun {q r} hq hr hne e => ?_) nL)
      injection e with e
      exact hne (one q hq r hr e)
    have n1 : L1.Nodup := nodup_of_map (pm1.nodup_iff.mpr nref)
    refine (List.perm_ext_iff_of_nodup n1 nL).mpr fun q => ⟨hs q, fun hq => ?_⟩
    have hm : Value.ref q.1 ∈ L1.map (fun q => Value.ref q.1) := pm1.mem_iff.mpr (List.mem_map.mpr ⟨q, hq, rfl⟩)
    obtain ⟨r, hr, e⟩ := List.mem_map.mp hm
    injection e with e
    rw [← one r (hs r hr) q hq e]
    exact hr
  obtain ⟨L1, rfl, hs1⟩ := ord vs fun v hv => by
    obtain ⟨q, hq, e⟩ := List.mem_map.mp (pm.mem_iff.mp hv)
    exact ⟨q, hq, e.symm⟩
  have p1 : L1.Perm L := perm_of L1 hs1 pm
  have hvl : (L1.map fun q => Value.ref q.1).length < 64 := by rw [pm.length_eq, List.length_map]; exact hfew
  refine wpAny_bind (wpAny_newList ?_ (by rw [sizeLine_eq]; omega))
  have hoL : (s1.heap.push (seqObj "list" (L1.map fun q => Value.ref q.1).toArray 0)).get? s1.heap.objs.size = some (seqObj "list" (L1.map fun q => Value.ref q.1).toArray 0) := Heap.get?_push_size _ rfl
  have mk : ∀ (S : Value → D → Prop) (L2 : List (Addr × List Int)), (∀ q ∈ L2, S (.ref q.1) (eR q.2)) → PySem.W.EachIs S (L2.map fun q => Value.ref q.1) (L2.map fun q => eR q.2) := fun S L2 => by
    induction L2 with
    | nil => intro _; exact .nil
    | cons q L2 ih => intro h; exact .cons (h q List.mem_cons_self) (ih fun r hr => h r (List.mem_cons_of_mem _ hr))
  refine wpAny_bind (wpAny_holding (PySem.W.list_sort_data (s := { s1 with heap := s1.heap.push (seqObj "list" (L1.map fun q => Value.ref q.1).toArray 0) }) (R := fun u d => ∃ q ∈ L, u = Value.ref q.1 ∧ d = eR q.2) (enc := py) (bs := L1.map fun q => eR q.2) hoL (mk _ L1 fun q hq => ⟨q, hs1 q hq, rfl, rfl⟩)
    (mk _ L1 fun q hq => ?_) ?_ ?_ (by rw [List.length_map]; rw [List.length_map] at hvl; rw [sizeLine_eq]; omega) (fun b hb => ?_) fun out lo eo => ?_))
  · obtain ⟨rs, rd⟩ := hr q (hs1 q hq)
    have rd1 : Reads s1.heap (.ref q.1) (py (eR q.2)) rs := PyProof.Rows.Reads.keeps k1 rd
    exact ⟨rs, PyProof.Rows.Reads.keeps (fun b o q => Heap.get?_push_of_some _ q) rd1, fun hm => by
      obtain ⟨o, ho⟩ := PyProof.On.reads_mem_get rd1 _ hm
      exact absurd (Heap.lt_size ho) (Nat.lt_irrefl _)⟩
  · intro d hd d' hd'
    rw [List.map_map] at hd hd'
    obtain ⟨x, _, rfl⟩ := List.mem_map.mp hd
    obtain ⟨y, _, rfl⟩ := List.mem_map.mp hd'
    exact z4u _ _
  · refine .inl fun d hd => ?_
    rw [List.map_map] at hd
    obtain ⟨x, hx, rfl⟩ := List.mem_map.mp hd
    have := hn x (hs1 x hx)
    show ∃ y r, py (eR x.2) = _
    cases e : x.2 with
    | nil => exact absurd e this
    | cons y r => exact ⟨_, _, by unfold eR; rw [py, List.map_cons, pys]⟩
  · obtain ⟨x, _, rfl⟩ := List.mem_map.mp hb
    have := z53 x.2
    show A.units + 1 + 1 + _ < _
    omega
  · obtain ⟨c, hc⟩ := sortedHeap_at (vs := L1.map fun q => Value.ref q.1) (out := out.toArray) hoL
    refine wpAny_pure ⟨_, rfl, hQ _ s1.heap.objs.size out c L1 (fun b u e => ?_) g1 o1 hz hc (by rw [lo, List.length_map]) p1 eo⟩
    have q := k1 b u e
    have hlt := Heap.lt_size q
    show (sortedHeap (s1.heap.push (seqObj "list" (L1.map fun q => Value.ref q.1).toArray 0)) s1.heap.objs.size _ out.toArray).get? b = some u
    rw [sortedHeap_old (Nat.ne_of_lt hlt) (by rw [size_push']; exact Nat.lt_succ_of_lt hlt)]
    exact Heap.get?_push_of_some _ q
end
end DL
namespace DL
open PySem PySem.Spec PyProof.Rows L2
section
variable {X : Cx}
theorem z0r {K : Ml} {H : Hp} {G : DHp} : ∀ {ks : List (List Int)} {vs : List V}, VRs K H G (ks.map eR) vs → ∃ as : List (Addr × List Int), vs = as.map (fun p => V.ref p.1) ∧ as.map (·.2) = ks ∧ ∀ p ∈ as, SqT K.K H p.1 (p.2.map V.int) ∧ VR K H G (eR p.2) (.ref p.1)
  | [], vs, h => by
    rw [List.map_nil] at h
    cases h.nil_of
    exact ⟨[], rfl, rfl, fun p hp => nomatch hp⟩
  | k :: ks, vs, h => by
    rw [List.map_cons] at h
    obtain ⟨v, vs, rfl, q, t⟩ := h.uncons
    obtain ⟨as, rfl, e2, h3⟩ := z0r t
    have q0 := q
    unfold eR at q
    rw [VR] at q
    obtain ⟨a, ws, rfl, h1, r1⟩ := q
    have ew : ws = k.map V.int := by
      have go : ∀ (k : List Int) (ws : List V), VRs K H G (k.map D.int) ws → ws = k.map V.int := fun k => by
        induction k with
        | nil => intro ws h; rw [List.map_nil] at h; exact h.nil_of
        | cons i k ih =>
          intro ws h
          rw [List.map_cons] at h
          obtain ⟨v, vs, rfl, q, t⟩ := h.uncons
          rw [VR] at q
          rw [ih _ t, q]; rfl
      exact go k ws r1
    subst ew
    refine ⟨(a, k) :: as, rfl, by rw [List.map_cons, e2], fun p hp => ?_⟩
    rcases List.mem_cons.mp hp with rfl | hp
    · exact ⟨h1, q0⟩
    · exact h3 p hp
/-- sorted(set(e)) -/
def zte (T : DTE) : DTE := fun η G Q => T η G fun d G1 => ∃ ks : List (List Int), sqD d G1 = some (ks.map eR) ∧ ks.length < 64 ∧ (∀ k ∈ ks, k ≠ []) ∧
  ∀ ls : List (List Int), ls.Nodup → (∀ k, k ∈ ls ↔ k ∈ ks) → ∀ p, G1 p = none → Q (.ref p) (up G1 p (.lst (srt (ls.map eR))))
theorem zvf [Bs] {e : Expr} {T : DTE} {p p2 q pos : Pos} (hc : X.calm = true) (hu : X.A.units + 65 < cLine) (hm : X.mg "sorted" = none) (hm2 : X.mg "set" = none) (he : PED X e T)
    (hg : Gl X "sorted" := by rfl) (hg2 : Gl X "set" := by rfl) (na : starEach [e] X.env = (false, eval e X.env) :: starEach [] X.env := by rfl) :
    PED X (.Call (.Name "sorted" p) [.Call (.Name "set" p2) [e] [] q] [] pos) (zte T) := ⟨fun pins s σ H Q I ⟨η, G, P, hs, hr, t, k⟩ => by
  refine Call_ (ld_blt I hg hm PyProof.Rows.boot_sorted ?_)
  refine PyProof.Rows.callWith_builtin1 (PyProof.Rows.args_cons ?_ rfl) rfl rfl
  refine Call_ (ld_blt I hg2 hm2 PyProof.Rows.boot_set ?_)
  refine PyProof.Rows.callWith_type1 (PyProof.Rows.args_cons (thn (he.run pins s σ H (fun v H' => ∃ d G1, (∃ ks : List (List Int), sqD d G1 = some (ks.map eR) ∧ ks.length < 64 ∧ (∀ k ∈ ks, k ≠ []) ∧
      ∀ ls : List (List Int), ls.Nodup → (∀ k, k ∈ ls ↔ k ∈ ks) → ∀ p, G1 p = none → P (.ref p) (up G1 p (.lst (srt (ls.map eR))))) ∧ Ext H G H' G1 ∧ HR X.ml H' G1 ∧ VR X.ml H' G1 d v) I ⟨η, G, _, hs, hr, t, fun d G1 v H1 p1 x1 r1 q1 => ⟨d, G1, p1, x1, r1, q1⟩⟩) fun v s1 ⟨x, H1, I1, rx, q1⟩ => PyProof.Rows.args_nil ?_) na) na rfl
  obtain ⟨d, G1, ⟨ks, hsq, hfew, hne, fin⟩, x1, r1, q1⟩ := q1
  obtain ⟨a, vs, rfl, hq, r⟩ := z0n r1 q1 hsq
  cases (show v = Value.ref a from rx)
  obtain ⟨as, rfl, eks, has⟩ := z0r r
  have hlas : as.length < 64 := by rw [← eks, List.length_map] at hfew; exact hfew
  have go : ∀ (h' : Heap) (tk : Nat) L es ep t, SetTR X.prog X.w h' s1.heap.objs.size L es ep t → Got as as.length L → (∀ b o, s1.heap.get? b = some o → h'.get? b = some o) →
      wpAny (model X.prog X.w) X.A (call (.builtin "sorted") [.ref s1.heap.objs.size]) (fun v s' => ∃ x H', Inv X pins σ H' s' ∧ RelV x v ∧ Q x H') X.xe { s1 with heap := h', toks := tk } := fun h' tk L es ep t R g kp => by
    have sub : ∀ p ∈ L, p ∈ as := fun p hp => List.mem_of_mem_take (g.sub p hp)
    refine zy0 (s := { s1 with heap := h', toks := tk }) R (I1.ok.hd hc) (by omega) (fun q hq => hne _ (by rw [← eks]; exact List.mem_map.mpr ⟨q, sub q hq, rfl⟩)) (fun q hq => ?_) fun s' p out c L' kp2 g2 o2 hp hg lo pm eo => ?_
    · obtain ⟨rs, rd⟩ := Dp.reads I1 _ _ (Value.ref q.1) (((has q (sub q hq)).2).dp (zhn (by unfold eR; rw [zbn]; exact zhi zyi _))) rfl
      exact ⟨rs, PyProof.Rows.Reads.keeps kp rd⟩
    · have hkeep : ∀ b o, s1.heap.get? b = some o → s'.heap.get? b = some o := fun b o e => kp2 b o (kp b o e)
      have hsz : s1.heap.objs.size ≤ p := by
        obtain ⟨o, ho, _⟩ := R.ob
        have : s1.heap.objs.size < h'.objs.size := Heap.lt_size ho
        have hp' : h'.objs.size ≤ p := hp
        omega
      have hn : H1 p = none := I1.hok.fresh hsz
      have each : PySem.W.EachIs (fun u d => ∃ v, RelV v u ∧ VR X.ml H1 G1 d v) out (srt (L'.map fun q => eR q.2)) := eo.mono fun u b ⟨q, hq, e1, e2⟩ => by
        subst e1 e2
        exact ⟨.ref q.1, rfl, (has q (sub q hq)).2⟩
      obtain ⟨ws, rw', qs⟩ := zsi each
      have hlen : ws.length ≤ sizeLine := by
        rw [rw'.length, lo, pm.length_eq]
        have := R.few
        rw [sizeLine_eq]; omega
      have J : Inv X pins σ (upd H1 p (.lst ws)) { s1 with heap := s'.heap, gens := s'.gens, drawn := s'.drawn, toks := s'.toks } :=
        I1.call (ch := []) (Un.laid hkeep hsz hn) (I1.hok.laid hkeep hsz ⟨hlen, out, c, rw', hg⟩) (by rw [g2]; exact I1.bare) (fun _ z => nomatch z)
      have es' : s' = { s1 with heap := s'.heap, gens := s'.gens, drawn := s'.drawn, toks := s'.toks } := by
        obtain ⟨h2, g2', d2, t2, os2⟩ := s'
        simp only at o2
        subst o2
        rfl
      have x3 : Ext H1 G1 (upd H1 p (.lst ws)) (up G1 p (.lst (srt (L'.map fun q => eR q.2)))) := .new hn
      rw [es']
      refine ⟨.ref p, _, J, rfl, ?_⟩
      have nd : (L'.map (·.2)).Nodup := (pm.map (·.2)).nodup_iff.mpr R.nd
      have fe := fin (L'.map (·.2)) nd (fun k => ?_) p (r1.free hn)
      · rw [List.map_map] at fe
        exact k (.ref p) _ (.ref p) _ fe (x1.trans x3) (r1.new hn ⟨ws, upd_same, qs.ext r1 x3⟩) (by rw [VR])
      · rw [(pm.map (·.2)).mem_iff, ← eks]
        constructor
        · intro h
          obtain ⟨q, hq, rfl⟩ := List.mem_map.mp h
          exact List.mem_map.mpr ⟨q, sub q hq, rfl⟩
        · intro h
          obtain ⟨q, hq, rfl⟩ := List.mem_map.mp h
          exact g.all q (by rw [List.take_length]; exact hq)
  rcases hq with hq | hq
  · obtain ⟨its, rv, pl, hz⟩ := I1.list hq
    exact call_set_tups (P := X.prog) (w := X.w) as (I1.ok.hd hc) pl.isList (by simpa using refs_of_vals rv) (fun p hp => I1.isT (has p hp).1) hlas (by omega) fun h' tk L es ep t R g k => PyProof.Rows.args_nil (go h' tk L es ep t R g k)
  · obtain ⟨its, rv, pl, hz⟩ := I1.tuple hq
    exact zwo (P := X.prog) (w := X.w) as (I1.ok.hd hc) pl (by simpa using refs_of_vals rv) (fun p hp => I1.isT (has p hp).1) hlas (by omega) fun h' tk L es ep t R g k => PyProof.Rows.args_nil (go h' tk L es ep t R g k)⟩
end
end DL
namespace DL
open PySem PySem.Spec PyProof.Rows L2
end DL
namespace DL
open PySem PySem.Spec PyProof.Rows L2
section
variable {X : Cx}
theorem z0p {K : Ml} {H : Hp} {G : DHp} : ∀ {xs : List Str} {us : List Value}, zfy xs us = true → ∃ vs, VRs K H G (xs.map D.str) vs ∧ Vals vs us
  | [], [], _ => ⟨[], .nil, .nil⟩
  | x :: xs, .str y t :: us, h => by
    rw [zfy, Bool.and_eq_true, decide_eq_true_eq] at h
    obtain ⟨rfl, h⟩ := h
    obtain ⟨vs, h1, h2⟩ := z0p (K := K) (H := H) (G := G) h
    exact ⟨.str x :: vs, .cons (by rw [VR]) h1, .cons ⟨t, rfl⟩ h2⟩
  | [], _ :: _, h => by simp [zfy] at h
  | x :: xs, [], h => by simp [zfy] at h
  | x :: xs, .none :: us, h => by simp [zfy] at h
  | x :: xs, .bool _ :: us, h => by simp [zfy] at h
  | x :: xs, .int _ _ :: us, h => by simp [zfy] at h
  | x :: xs, .ref _ :: us, h => by simp [zfy] at h
  | x :: xs, .type _ :: us, h => by simp [zfy] at h
  | x :: xs, .builtin _ :: us, h => by simp [zfy] at h
theorem z3r {K : Ml} {a : Addr} {od : Option Addr} {its : Array Value} {n : Nat} {sl : Array (Option Value)} {xs : List Str} (e : K.K.lookup a = some ⟨.type "tuple", od, .seq its n, sl⟩) (h : zfy xs its.toList = true) (hz : its.size ≤ sizeLine) : KTup K a (.nd .tup (xs.map D.str)) := fun H G => by
  obtain ⟨vs, h1, h2⟩ := z0p (K := K) (H := H) (G := G) h
  rw [VR]
  exact ⟨a, vs, rfl, .inr ⟨_, its, n, e, rfl, rfl, hz, h2⟩, h1⟩
/-- what the text says of such a tuple -/
def GTup (K : PySem.W.Frag) (mg : Str → Option Value) (x : Str) (xs : List Str) : Prop := ∃ (a : Addr) (od : Option Addr) (its : Array Value) (n : Nat) (sl : Array (Option Value)), mg x = some (.ref a) ∧ K.lookup a = some ⟨.type "tuple", od, .seq its n, sl⟩ ∧ zfy xs its.toList = true ∧ its.size ≤ sizeLine
theorem z2x [Bs] {x : Str} {xs : List Str} {ds : List D} {pos : Pos} (h : GTup X.K X.mg x xs) (e : xs.map D.str = ds := by rfl) (hg : Gl X x := by rfl) (hd : (x == ("__debug__" : Str)) = false := by decide) : PED X (.Name x pos) (dC (.nd .tup ds)) := by
  obtain ⟨a, od, its, n, sl, h1, h2, h3, h4⟩ := h
  subst e
  exact z5f h1 (z3r h2 h3 h4) hg hd
end
end DL
namespace DL
open PySem PySem.Spec PyProof.Rows L2
section
variable {X : Cx}
def dEmp (neg : Bool) : DR2 := fun x y G Q => match y with
  | .nd .tup [] => (match x with
    | .nd .tup ds => Q (.bl (neg != ds.isEmpty)) G
    | _ => False)
  | _ => match lsD y G with
    | some [] => (match lsD x G with
      | some ds => Q (.bl (neg != ds.isEmpty)) G
      | none => False)
    | _ => False
theorem zrm {items items2 : Array Value} {K : Ml} {H : Hp} {G : DHp} {ds : List D} {vs ws : List V} (r : VRs K H G ds vs) (rv : Vals vs items.toList) (r2 : VRs K H G [] ws) (rv2 : Vals ws items2.toList) : items2.size = 0 ∧ items.size = ds.length := by
  cases r2.nil_of
  have h1 := rv2.length
  have h2 := rv.length
  have h3 := r.length
  rw [Array.length_toList] at h1 h2
  have h3 : vs.length = ds.length := by omega
  exact ⟨h1.symm, h2.symm.trans h3⟩
theorem isE {ds : List D} : ds.isEmpty = (ds.length == 0) := by cases ds <;> rfl
theorem z9b (hu : X.A.units + 64 < cLine) : OpD X (compareOp .Eq) (dEmp false) := zjo fun pins s σ H G x y v u dx dy P I rx ry hr q1 q2 t => by
  unfold dEmp at t
  split at t
  · split at t
    · rename_i ds
      rw [VR] at q1 q2
      obtain ⟨a, vs, rfl, h1, r1⟩ := q1
      obtain ⟨b, ws, rfl, h2, r2⟩ := q2
      cases (show v = Value.ref a from rx)
      cases (show u = Value.ref b from ry)
      obtain ⟨i1, rv1, l1, _⟩ := I.tuple h1
      obtain ⟨i2, rv2, l2, _⟩ := I.tuple h2
      obtain ⟨e2, e1⟩ := zrm (items := i1.toArray) (items2 := i2.toArray) r1 (by simpa using rv1) r2 (by simpa using rv2)
      refine SeqAt.eq_tupleAt (e := fun _ => true) l1 l2 (by omega) (fun j _ hj => absurd hj (by omega)) ?_
      have : ((List.range (min i1.toArray.size i2.toArray.size)).all (fun _ => true) && i1.toArray.size == i2.toArray.size) = (false != ds.isEmpty) := by
        rw [isE, e1, e2]; cases ds.length <;> simp
      rw [this]
      exact zak (z := .bl _) I rfl hr (by rw [VR] <;> rfl) t
    · exact t.elim
  · split at t
    · rename_i ey
      split at t
      · rename_i ds ex
        obtain ⟨a, vs, rfl, h1, r1⟩ := zqj hr q1 ex
        obtain ⟨b, ws, rfl, h2, r2⟩ := zqj hr q2 ey
        cases (show v = Value.ref a from rx)
        cases (show u = Value.ref b from ry)
        obtain ⟨i1, rv1, l1, _⟩ := I.list h1
        obtain ⟨i2, rv2, l2, _⟩ := I.list h2
        obtain ⟨e2, e1⟩ := zrm (items := i1.toArray) (items2 := i2.toArray) r1 (by simpa using rv1) r2 (by simpa using rv2)
        cases ds with
        | nil =>
          refine SeqAt.eq_listAt (e := fun _ => true) l1.isList l2.isList (by rw [e1, e2]; rfl) (by omega) (fun j _ hj => absurd hj (by omega)) ?_
          rw [e1]
          exact zak (z := .bl _) I rfl hr (by rw [VR] <;> rfl) t
        | cons d ds =>
          refine SeqAt.eq_list_lengthsAt l1.isList l2.isList (by rw [e1, e2]; simp) (by omega) ?_
          exact zak (z := .bl _) I rfl hr (by rw [VR] <;> rfl) t
      · exact t.elim
    · exact t.elim
theorem z7z (hu : X.A.units + 64 < cLine) : OpD X (compareOp .NotEq) (dEmp true) := zjo fun pins s σ H G x y v u dx dy P I rx ry hr q1 q2 t => by
  unfold dEmp at t
  split at t
  · split at t
    · rename_i ds
      rw [VR] at q1 q2
      obtain ⟨a, vs, rfl, h1, r1⟩ := q1
      obtain ⟨b, ws, rfl, h2, r2⟩ := q2
      cases (show v = Value.ref a from rx)
      cases (show u = Value.ref b from ry)
      obtain ⟨i1, rv1, l1, _⟩ := I.tuple h1
      obtain ⟨i2, rv2, l2, _⟩ := I.tuple h2
      obtain ⟨e2, e1⟩ := zrm (items := i1.toArray) (items2 := i2.toArray) r1 (by simpa using rv1) r2 (by simpa using rv2)
      refine SeqAt.RcNeAt.tuples (e := fun _ => true) l1 l2 (by omega) (fun j _ hj => absurd hj (by omega)) X.prog X.w _ _ ?_
      have : (!((List.range (min i1.toArray.size i2.toArray.size)).all (fun _ => true) && i1.toArray.size == i2.toArray.size)) = (true != ds.isEmpty) := by
        rw [isE, e1, e2]; cases ds.length <;> simp
      rw [this]
      exact zak (z := .bl _) I rfl hr (by rw [VR] <;> rfl) t
    · exact t.elim
  · split at t
    · rename_i ey
      split at t
      · rename_i ds ex
        obtain ⟨a, vs, rfl, h1, r1⟩ := zqj hr q1 ex
        obtain ⟨b, ws, rfl, h2, r2⟩ := zqj hr q2 ey
        cases (show v = Value.ref a from rx)
        cases (show u = Value.ref b from ry)
        obtain ⟨i1, rv1, l1, _⟩ := I.list h1
        obtain ⟨i2, rv2, l2, _⟩ := I.list h2
        obtain ⟨e2, e1⟩ := zrm (items := i1.toArray) (items2 := i2.toArray) r1 (by simpa using rv1) r2 (by simpa using rv2)
        cases ds with
        | nil =>
          refine SeqAt.RcNeAt.lists (e := fun _ => true) l1.isList l2.isList (by rw [e1, e2]; rfl) (by omega) (fun j _ hj => absurd hj (by omega)) X.prog X.w _ _ ?_
          rw [e1]
          exact zak (z := .bl _) I rfl hr (by rw [VR] <;> rfl) t
        | cons d ds =>
          refine SeqAt.RcNeAt.lists_lengths l1.isList l2.isList (by rw [e1, e2]; simp) (by omega) X.prog X.w _ _ ?_
          exact zak (z := .bl _) I rfl hr (by rw [VR] <;> rfl) t
      · exact t.elim
    · exact t.elim
end
end DL
namespace DL
open PySem PySem.Spec PyProof.Rows L2
mutual
def zax : D → Bool
  | .non => true
  | .int _ => true
  | .str x => PyData.strOk x
  | .nd .tup ds => cleanXs ds
  | .nd .lst ds => cleanXs ds
  | _ => false
def cleanXs : List D → Bool
  | [] => true
  | d :: ds => zax d && cleanXs ds
end
mutual
theorem zfj : ∀ {d : D}, zax d = true → zcl d = true
  | .str _, _ => rfl
  | .non, _ => rfl
  | .int _, _ => rfl
  | .nd .tup ds, h => by rw [zcl]; rw [zax] at h; exact cleanXs_plain h
  | .nd .lst ds, h => by rw [zcl]; rw [zax] at h; exact cleanXs_plain h
  | .bl _, h => by simp [zax] at h
  | .ty _, h => by simp [zax] at h
  | .ref _, h => by simp [zax] at h
  | .nd .scr _, h => by simp [zax] at h
  | .nd (.ins _ _) _, h => by simp [zax] at h
  | .nd (.dK _) _, h => by simp [zax] at h
  | .nd (.dN _) _, h => by simp [zax] at h
theorem cleanXs_plain : ∀ {ds : List D}, cleanXs ds = true → plainDs ds = true
  | [], _ => rfl
  | d :: ds, h => by
    rw [cleanXs, Bool.and_eq_true] at h
    rw [plainDs, zfj h.1, cleanXs_plain h.2]; rfl
end
mutual
theorem zvb : ∀ {d : D}, zax d = true → PyData.canLay0 (py d) = true
  | .str x, h => by rw [py, PyData.canLay0]; rw [zax] at h; exact h
  | .non, _ => by rw [py, PyData.canLay0]
  | .int _, _ => by rw [py, PyData.canLay0]
  | .nd .tup ds, h => by rw [py, PyData.canLay0]; rw [zax] at h; exact cleanXs_lay h
  | .nd .lst ds, h => by rw [py, PyData.canLay0]; rw [zax] at h; exact cleanXs_lay h
  | .bl _, h => by simp [zax] at h
  | .ty _, h => by simp [zax] at h
  | .ref _, h => by simp [zax] at h
  | .nd .scr _, h => by simp [zax] at h
  | .nd (.ins _ _) _, h => by simp [zax] at h
  | .nd (.dK _) _, h => by simp [zax] at h
  | .nd (.dN _) _, h => by simp [zax] at h
theorem cleanXs_lay : ∀ {ds : List D}, cleanXs ds = true → PyData.canLayAll0 (pys ds) = true
  | [], _ => by rw [pys, PyData.canLayAll0]
  | d :: ds, h => by
    rw [cleanXs, Bool.and_eq_true] at h
    rw [pys, PyData.canLayAll0, zvb h.1, cleanXs_lay h.2]; rfl
end
mutual
theorem zop : ∀ {d e : D}, zax d = true → zax e = true → (PyData.eqv (py d) (py e) = true ↔ d = e)
  | .str _, .non, _, _ => by simp [py, PyData.eqv]
  | .non, .str _, _, _ => by simp [py, PyData.eqv]
  | .str _, .int _, _, _ => by simp [py, PyData.eqv]
  | .int _, .str _, _, _ => by simp [py, PyData.eqv]
  | .str _, .nd .tup _, _, _ => by simp [py, PyData.eqv]
  | .nd .tup _, .str _, _, _ => by simp [py, PyData.eqv]
  | .str _, .nd .lst _, _, _ => by simp [py, PyData.eqv]
  | .nd .lst _, .str _, _, _ => by simp [py, PyData.eqv]
  | .str x, .str y, _, _ => by simp [py, PyData.eqv]
  | .non, .non, _, _ => by simp [py, PyData.eqv]
  | .non, .int _, _, _ => by simp [py, PyData.eqv]
  | .non, .nd .tup _, _, _ => by simp [py, PyData.eqv]
  | .non, .nd .lst _, _, _ => by simp [py, PyData.eqv]
  | .int _, .non, _, _ => by simp [py, PyData.eqv]
  | .int i, .int j, _, _ => by simp [py, PyData.eqv]
  | .int _, .nd .tup _, _, _ => by simp [py, PyData.eqv]
  | .int _, .nd .lst _, _, _ => by simp [py, PyData.eqv]
  | .nd .tup _, .non, _, _ => by simp [py, PyData.eqv]
  | .nd .tup _, .int _, _, _ => by simp [py, PyData.eqv]
  | .nd .tup ds, .nd .tup es, h1, h2 => by
    rw [zax] at h1 h2
    rw [py, py, PyData.eqv, cleanXs_eq h1 h2]
    simp
  | .nd .tup _, .nd .lst _, _, _ => by simp [py, PyData.eqv]
  | .nd .lst _, .non, _, _ => by simp [py, PyData.eqv]
  | .nd .lst _, .int _, _, _ => by simp [py, PyData.eqv]
  | .nd .lst _, .nd .tup _, _, _ => by simp [py, PyData.eqv]
  | .nd .lst ds, .nd .lst es, h1, h2 => by
    rw [zax] at h1 h2
    rw [py, py, PyData.eqv, cleanXs_eq h1 h2]
    simp
  | .bl _, _, h, _ => by simp [zax] at h
  | .ty _, _, h, _ => by simp [zax] at h
  | .ref _, _, h, _ => by simp [zax] at h
  | .nd .scr _, _, h, _ => by simp [zax] at h
  | .nd (.ins _ _) _, _, h, _ => by simp [zax] at h
  | .nd (.dK _) _, _, h, _ => by simp [zax] at h
  | .nd (.dN _) _, _, h, _ => by simp [zax] at h
  | _, .bl _, _, h => by simp [zax] at h
  | _, .ty _, _, h => by simp [zax] at h
  | _, .ref _, _, h => by simp [zax] at h
  | _, .nd .scr _, _, h => by simp [zax] at h
  | _, .nd (.ins _ _) _, _, h => by simp [zax] at h
  | _, .nd (.dK _) _, _, h => by simp [zax] at h
  | _, .nd (.dN _) _, _, h => by simp [zax] at h
theorem cleanXs_eq : ∀ {ds es : List D}, cleanXs ds = true → cleanXs es = true → (PyData.eqvAll (pys ds) (pys es) = true ↔ ds = es)
  | [], [], _, _ => by simp [pys, PyData.eqvAll]
  | [], _ :: _, _, _ => by simp [pys, PyData.eqvAll]
  | _ :: _, [], _, _ => by simp [pys, PyData.eqvAll]
  | d :: ds, e :: es, h1, h2 => by
    rw [cleanXs, Bool.and_eq_true] at h1 h2
    rw [pys, pys, PyData.eqvAll, Bool.and_eq_true, zop h1.1 h2.1, cleanXs_eq h1.2 h2.2]
    simp
end
theorem zsv : ∀ ds : List D, cleanXs ds = ds.all zax
  | [] => rfl
  | d :: ds => by rw [cleanXs, zsv ds]; rfl
theorem ziw {d : D} (h : zax d = true) (h2 : (py d).depth ≤ 64) : SeqAt.shaped (py d) = true := by
  unfold SeqAt.shaped
  rw [zvb h, decide_eq_true h2]; rfl
theorem z34 {d e : D} {G : DHp} {Q : DVK} (h1 : zax (der d G) = true) (h2 : zax (der e G) = true) (d1 : (py (der d G)).depth ≤ 64) (d2 : (py (der e G)).depth ≤ 64) (b : Bool) (hb : b = true ↔ der d G = der e G) (h : Q (.bl b) G) : dEq d e G Q := by
  refine ⟨⟨zfj h1, zfj h2, ziw h1 d1, ziw h2 d2⟩, ?_⟩
  have : PyData.eqv (py (der d G)) (py (der e G)) = b := by
    rw [Bool.eq_iff_iff, zop h1 h2]; exact hb.symm
  rw [this]; exact h
theorem zz7 {d e : D} {G : DHp} {Q : DVK} (h1 : zax (der d G) = true) (h2 : zax (der e G) = true) (d1 : (py (der d G)).depth ≤ 64) (d2 : (py (der e G)).depth ≤ 64) (b : Bool) (hb : b = true ↔ der d G ≠ der e G) (h : Q (.bl b) G) : dNe d e G Q := by
  refine ⟨⟨zfj h1, zfj h2, ziw h1 d1, ziw h2 d2⟩, ?_⟩
  have : (!PyData.eqv (py (der d G)) (py (der e G))) = b := by
    rw [Bool.eq_iff_iff, Bool.not_eq_true', hb, ← Bool.not_eq_true, zop h1 h2]
  rw [this]; exact h
theorem zu6 {x : D} (hx : zax x = true) : ∀ {ds : List D}, cleanXs ds = true → (((pys ds).any fun z => PyData.eqv z (py x)) = true ↔ x ∈ ds)
  | [], _ => by simp [pys]
  | d :: ds, h => by
    rw [cleanXs, Bool.and_eq_true] at h
    rw [pys, List.any_cons, Bool.or_eq_true, zop h.1 hx, zu6 hx h.2, List.mem_cons]
    constructor
    · rintro (h | h)
      · exact .inl h.symm
      · exact .inr h
    · rintro (h | h)
      · exact .inl h.symm
      · exact .inr h
theorem z38 {neg : Bool} {x y : D} {ds : List D} {G : DHp} {Q : DVK} (hy : der y G = .nd .lst ds ∨ der y G = .nd .tup ds) (hx : zax x = true) (hs : cleanXs ds = true) (dx : (py x).depth ≤ 64) (b : Bool) (hb : b = true ↔ x ∈ ds) (h : Q (.bl (neg != b)) G) : dIn neg x y G Q := by
  have e : ((pys ds).any fun z => PyData.eqv z (py x)) = b := by rw [Bool.eq_iff_iff, zu6 hx hs]; exact hb.symm
  unfold dIn
  rcases hy with hy | hy
  · rw [hy]
    exact ⟨⟨zfj hx, cleanXs_plain hs, ziw hx dx, cleanXs_lay hs⟩, by rw [e]; exact h⟩
  · rw [hy]
    exact ⟨⟨zfj hx, cleanXs_plain hs, ziw hx dx, cleanXs_lay hs⟩, by rw [e]; exact h⟩
end DL
namespace DL
open PySem PySem.Spec PyProof.Rows L2
end DL
namespace DL
open PySem PySem.Spec PyProof.Rows L2
section
variable {K : Ml} {H H' : Hp} {G G' : DHp}
theorem Ext.gone : ∀ (as : List Addr) {G : DHp}, Ext H G H (as.foldl dl G)
  | [], _ => .refl _ _
  | a :: as, _ => (Ext.freeze (p := a)).trans (Ext.gone as)
theorem HR.gone : ∀ (as : List Addr) {G : DHp}, HR K H G → HR K H (as.foldl dl G)
  | [], _, h => h
  | a :: as, _, h => HR.gone as (h.freeze a)
end
end DL
namespace DL
open PySem PySem.Spec PyProof.Rows L2
def dFgE (T : DTE) : DTE := fun η G Q => T η G fun d G1 => ∃ as : List Addr, Q d (as.foldl dl G1)
section
variable {X : Cx}
theorem z64 [Bs] {e : Expr} {T : DTE} (h : PED X e T) : PED X e (dFgE T) := ⟨fun pins s σ H Q I ⟨η, G, P, hs, hr, t, k⟩ =>
  h.run pins s σ H Q I ⟨η, G, _, hs, hr, t, fun d G1 v H1 ⟨as, p⟩ x r q => k d _ v H1 p (x.trans (Ext.gone as)) (HR.gone as r) (q.ext r (Ext.gone as))⟩⟩
end
end DL
namespace DL
open PySem PySem.Spec PyProof.Rows L2
end DL
namespace DL
open PySem PySem.Spec PyProof.Rows L2
end DL
namespace DL
open PySem PySem.Spec PyProof.Rows L2
end DL
namespace DL
open PySem PySem.Spec PyProof.Rows L2
end DL
namespace DL
open PySem PySem.Spec PyProof.Rows L2
end DL
namespace PySem.W
open PySem PySem.Calls PySem.SeqAt PyProof.Rows
end PySem.W
namespace DL
open PySem PySem.Spec PyProof.Rows L2
end DL
namespace DL
open PySem PySem.Spec PyProof.Rows L2
end DL
namespace DL
open PySem PySem.Spec PyProof.Rows L2
end DL
namespace L2
open PySem PySem.Spec PyProof.Rows
section
variable {M : Model} {prog : Program} {w : World} {A : Around} {E : Value → Shared → Prop} {s : Shared} {K : PySem.W.Frag} {x y C f : Addr} {ox oy : Obj} {od oyd : Option Obj}
theorem zvq {args : List Value} {Q : Option Value → Shared → Prop} (X : K.In s.heap) (I : PySem.W.InstAt s.heap x ox C od) (hs : PySem.W.findIn K (.ref C) "__ne__" = some (some (.builtin "object.__ne__")))
    (h : wpAny M A (call (.builtin "object.__ne__") (.ref x :: args)) (fun v => Q (some v)) E s) : wpAny M A (callSpecialIfBound? (.ref x) "__ne__" args) Q E s := by
  simp only [callSpecialIfBound?, bindSpecialIfBound?]
  refine wpAny_holding (wpAny_bind (wpAny_bind (wpAny_bind (I.type.here ((PySem.W.looks_findIn X hs).here ?_)))))
  refine wpAny_bind (wpAny_askSetting (wpAny_ite ?_))
  have fin : wpAny M A (call (.builtin "object.__ne__") ([.ref x] ++ args) >>= fun v => pure (some v)) Q E s := wpAny_bind (wpAny_mono h (fun v s' h' => wpAny_pure h') fun _ _ h' => h')
  split
  · exact wpAny_bind (wpAny_of_eq (F.cmp_object.ne.bind _) (wpAny_pure (by exact fin)))
  · exact wpAny_tryCatch (wpAny_bind (wpAny_of_eq (F.cmp_object.ne.bind _) (wpAny_pure (by exact fin))))
theorem zy5 (hu : A.units < cLine) (X : K.In s.heap) (I : PySem.W.InstAt s.heap x ox C od) (hs : PySem.W.findIn K (.ref C) "__eq__" = some (some (.ref f))) (hf : PySem.W.isFn K (.ref f) = true) {Q : Fin → Shared → Prop}
    (h : wpAny (model prog w) A (call (.ref f) [.ref x, .ref y]) (fun v s' => ∃ b, v = .bool b ∧ Q (.done (.ret (.bool (!b)))) s') E s) : wpAny (model prog w) A (Builtin.«object.__ne__» ⟨[.ref x, .ref y], []⟩) Q E s := by
  unfold Builtin.«object.__ne__»
  repeat (first
    | with_reducible refine wpAny_cRoomFor hu ?_
    | (refine wpAny_bind (m := callSpecialIfBound? (.ref x) (Str.ofString "__eq__") [.ref y])
        (PySem.W.ifBound_K X I hs hf (wpAny_mono h (fun r s' hr => by
          obtain ⟨b, rfl, hq⟩ := hr
          repeat (first | exact hq | exact wpAny_pure hq | exact wpAny_truthy_bool hq | (refine wpAny_bind (m := truthy (.bool _)) (wpAny_truthy_bool ?_)) | wp_step)) fun _ _ e => e)))
    | wp_step)
/-- x != y, both of the class C, which has its own == and no != -/
theorem z29 {Q : Value → Shared → Prop} (hu : A.units + 1 < cLine) (X : K.In s.heap) (I : PySem.W.InstAt s.heap x ox C od) (J : PySem.W.InstAt s.heap y oy C oyd) (hm : PySem.W.mroIn K C (.type "object") = some true)
    (hn : PySem.W.findIn K (.ref C) "__ne__" = some (some (.builtin "object.__ne__"))) (hs : PySem.W.findIn K (.ref C) "__eq__" = some (some (.ref f))) (hf : PySem.W.isFn K (.ref f) = true)
    (h : wpAny (model prog w) A.in1 (call (.ref f) [.ref x, .ref y]) (fun v s' => ∃ b, v = .bool b ∧ Q (.bool (!b)) s') E s) : wpAny (model prog w) A (richCompare .NotEq (.ref x) (.ref y)) Q E s := by
  have one : wpAny (model prog w) A (tryCompare (.ref x) "__ne__" (.ref y)) (fun r s' => ∃ b, r = some (.bool b) ∧ Q (.bool b) s') E s := by
    unfold tryCompare
    refine wpAny_bind (zvq X I hn (wpAny_call (codeAny_call_builtin F.cmp_object.ne.plain F.cmpEntry_ne (PySem.W.check_slot F.cmpKind_ne F.cmpSplit_ne (I.type.andThen (PySem.W.looks_mroIn X hm)) (F.cmpArgs_ne _ _)
      (zy5 (A := A.in1) hu X I hs hf (wpAny_mono h (fun v s' hv => ?_) fun _ _ e => e))))))
    obtain ⟨b, rfl, hq⟩ := hv
    exact ⟨b, rfl, wpAny_pure ⟨_, rfl, hq⟩⟩
  unfold richCompare
  simp only [oneThing_ref]
  refine wpAny_holding (wpAny_bind (wpAny_cRoomFor (Nat.lt_of_succ_lt hu) ?_))
  rw [cmpInfo_NotEq]
  dsimp only
  refine wpAny_bind (I.type.here (wpAny_bind (J.type.here ?_)))
  rw [show (Value.ref C != Value.ref C) = false from by simp]
  simp only [Bool.false_eq_true, if_false]
  refine wpAny_bind (wpAny_pure ?_)
  simp only [Bool.false_eq_true, if_false]
  refine wpAny_bind (wpAny_mono one (fun v s' hv => ?_) fun _ _ e => e)
  obtain ⟨b, rfl, hq⟩ := hv
  exact wpAny_pure hq
end
end L2
namespace L2
open PySem PySem.Spec PyProof.Rows
/-- how two values compare, by the abstract heap: with an answer -/
abbrev EqvB := V → V → Hp → Bool → Prop
/-- items, up to the first that differ -/
inductive ItB (E : EqvB) (H : Hp) : List V → List V → Bool → Prop
  | nil : ItB E H [] [] true
  | cons {x y : V} {xs ys : List V} {b : Bool} : E x y H true → ItB E H xs ys b → ItB E H (x :: xs) (y :: ys) b
  | stop {x y : V} {xs ys : List V} : E x y H false → xs.length = ys.length → ItB E H (x :: xs) (y :: ys) false
theorem ItB.len {E : EqvB} {H : Hp} {xs ys : List V} {b : Bool} (h : ItB E H xs ys b) : xs.length = ys.length := by
  induction h with
  | nil => rfl
  | cons _ _ ih => rw [List.length_cons, List.length_cons, ih]
  | stop _ e => rw [List.length_cons, List.length_cons, e]
theorem ItB.at_ {E : EqvB} {H : Hp} {xs ys : List V} {b : Bool} (h : ItB E H xs ys b) :
    ∃ j, (b = true ↔ j = xs.length) ∧ j ≤ xs.length ∧ (∀ i x y, i < j → xs[i]? = some x → ys[i]? = some y → E x y H true) ∧ ∀ x y, xs[j]? = some x → ys[j]? = some y → E x y H false := by
  induction h with
  | nil => exact ⟨0, by simp, Nat.le_refl _, fun i x y hi => absurd hi (Nat.not_lt_zero _), fun x y h => by simp at h⟩
  | @cons x y xs ys b e _ ih =>
    obtain ⟨j, h1, h2, h3, h4⟩ := ih
    refine ⟨j + 1, by rw [h1, List.length_cons]; omega, by rw [List.length_cons]; omega, fun i u v hi hu hv => ?_, fun u v hu hv => h4 u v (by simpa using hu) (by simpa using hv)⟩
    cases i with
    | zero =>
      simp only [List.getElem?_cons_zero, Option.some.injEq] at hu hv
      subst hu hv
      exact e
    | succ i => exact h3 i u v (by omega) (by simpa using hu) (by simpa using hv)
  | @stop x y xs ys e _ =>
    refine ⟨0, by rw [List.length_cons]; constructor <;> intro h <;> (first | (cases h) | omega), Nat.zero_le _, fun i u v hi => absurd hi (Nat.not_lt_zero _), fun u v hu hv => ?_⟩
    simp only [List.getElem?_cons_zero, Option.some.injEq] at hu hv
    subst hu hv
    exact e
/-- == or != at the top -/
def opE (neg : Bool) : CmpOp := if neg then .NotEq else .Eq
def RcX (X : Cx) (n : Nat) (neg : Bool) (D : EqvB) : Prop :=
  ∀ (A : Around) (pins : List (Addr × Obj)) (s : Shared) (σ : St) (H : Hp) (x y : V) (u v : Value) (b : Bool), Sub X n A → Inv X pins σ H s → RelV x u → RelV y v → D x y H b →
    wpAny (model X.prog X.w) A (richCompare (opE neg) u v) (fun r s' => r = .bool (neg != b) ∧ ∃ H', Inv X pins σ H' s' ∧ Ext H H') X.xe s
section
variable {X : Cx} {n m : Nat} {D : EqvB}
/-- instances of the class at C with the text's own == -/
def zaan (C : Addr) (R : Addr → Addr → Hp → Bool → Prop) : EqvB := fun x y H b => ∃ p q dx dy fs gs, x = .ref p ∧ y = .ref q ∧ H p = some (.ins C dx fs) ∧ H q = some (.ins C dy gs) ∧ R p q H b
def z8f (R : Addr → Addr → Hp → Bool → Prop) : Sp := fun vs H Q _ => ∃ p q b, vs = [.ref p, .ref q] ∧ R p q H b ∧ ∀ H', Ext H H' → Q (.bl b) H'
theorem z59 {CX : CXT} {C f : Addr} {fd : FuncData} {ps : List Str} {R : Addr → Addr → Hp → Bool → Prop} {E : XK} (F : FnOk X.prog X.w X.K X.mg X.base CX n f fd ps (z8f R)) (hm : PySem.W.mroIn X.K C (.type "object") = some true) (hn : PySem.W.findIn X.K (.ref C) "__ne__" = some (some (.builtin "object.__ne__")))
    (hs : PySem.W.findIn X.K (.ref C) "__eq__" = some (some (.ref f))) (hf : PySem.W.isFn X.K (.ref f) = true) (hb : Binds X.K fd ps []) (hx : Passes CX X E) : RcX X (n + 1) true (zaan C R) := by
  intro A pins s σ H x y u v b sb I rx ry d
  obtain ⟨p, q, dx, dy, fs, gs, rfl, rfl, ha, hb', hr⟩ := d
  cases rx
  cases ry
  obtain ⟨mA, J, _⟩ := ins_get I.hok ha
  obtain ⟨mB, J', _⟩ := ins_get I.hok hb'
  obtain ⟨od, J, _⟩ := J.look
  obtain ⟨od', J', _⟩ := J'.look
  refine z29 (C := C) (f := f) sb.in1.room.units0 I.kIn J J' hm hn hs hf ?_
  have hsp : z8f R [.ref p, .ref q] H (fun v H' => v = .bl b ∧ Ext H H') E := ⟨p, q, b, rfl, hr, fun H' e => ⟨rfl, e⟩⟩
  have e0 : Env0 X.prog X.w X.K X.mg X.base A.in1 X.stack s H := by
    have e := I.env0
    exact ⟨by rw [sb.in1.fr]; exact e.frames, e.mod, e.bs, e.bsz, e.funs, e.frf, e.hok, e.bare⟩
  have hl := F.len _ _ _ _ hsp
  have r2 : Vals [V.ref p, V.ref q] [Value.ref p, Value.ref q] := .cons rfl (.cons rfl .nil)
  refine wpAny_call (codeAny_mono (F.run A.in1 X.stack s H ⟨[.ref p, .ref q], []⟩ [.ref p, .ref q] [.ref p, .ref q] _ E sb.in1.room e0 (by
    have := hb s [.ref p, .ref q] I.kIn (by simpa using hl)
    simpa using this) r2 hsp) fun r s' hq => ?_)
  cases r with
  | error e => exact hx pins σ H s e s' I hq
  | ok fl =>
    cases fl with
    | ret w =>
      obtain ⟨z, H', I', rz, ez, ex⟩ := I.after hq
      subst ez
      cases rz
      exact ⟨b, rfl, by simp, H', I', ex⟩
    | next => exact False.elim hq
    | brk => exact False.elim hq
    | cont => exact False.elim hq
/-- x == y, x != y as an expression -/
def rEqX (neg : Bool) (D : EqvB) : R2 := fun x y H Q => ∃ b, D x y H b ∧ ∀ H', Ext H H' → Q (.bl (neg != b)) H'
theorem z95 {neg : Bool} (h : RcX X n neg D) (hr : Room n X.A) : OpR X (compareOp (opE neg)) (rEqX neg D) := by
  intro pins s σ H x y v u Q I rx ry hq
  obtain ⟨b, d, q⟩ := hq
  have go : wpAny (model X.prog X.w) X.A (richCompare (opE neg) v u) (EP X pins σ Q) X.xe s := by
    refine wpAny_mono (h X.A pins s σ H x y v u b ⟨hr, rfl⟩ I rx ry d) (fun r s' z => ?_) fun _ _ x => x
    obtain ⟨hr', H', I', e⟩ := z
    subst hr'
    exact ⟨.bl (neg != b), H', I', rfl, q H' e⟩
  cases neg with
  | false => exact go
  | true => exact go
end
end L2
namespace DL
open PySem PySem.Spec PyProof.Rows L2
/-- a class with an own ==, that says b of what P tells -/
structure EqBC (X : Cx) (m : Nat) (C : Addr) (P : D → D → Bool → Prop) : Prop where
  own : ∃ f fd ps sp, FnD X.prog X.w X.K X.mg X.base m f fd ps sp ∧ (∀ d e b G (Q : DVK), P d e b → Q (.bl b) G → sp [d, e] G Q) ∧ Meth X.K C "__eq__" f ∧ Binds X.K fd ps []
  ins : ∀ d e b, P d e b → ∃ fs ds gs es, d = .nd (.ins C fs) ds ∧ e = .nd (.ins C gs) es
/-- a class whose != is object's -/
structure NeC (K : PySem.W.Frag) (C : Addr) : Prop where
  mro : PySem.W.mroIn K C (.type "object") = some true
  ne : PySem.W.findIn K (.ref C) "__ne__" = some (some (.builtin "object.__ne__"))
section
variable {X : Cx} {m : Nat} {C : Addr} {P : D → D → Bool → Prop}
def RSmB (K : Ml) (P : D → D → Bool → Prop) (p q : Addr) (H : Hp) (b : Bool) : Prop := ∃ d e, VR K H noG d (.ref p) ∧ VR K H noG e (.ref q) ∧ P d e b
theorem z8y {f : Addr} {fd : FuncData} {ps : List Str} {sp : DRn} (F : FnD X.prog X.w X.K X.mg X.base m f fd ps sp) (hsp : ∀ d e b G (Q : DVK), P d e b → Q (.bl b) G → sp [d, e] G Q) : FnOk X.prog X.w X.K X.mg X.base CX0 m f fd ps (z8f (RSmB X.ml P)) :=
  F.imp fun vs H Q E ⟨p, q, b, e, ⟨d, d', q1, q2, pp⟩, k⟩ => by
    subst e
    exact ⟨[d, d'], noG, fun x G' => x = .bl b, .cons q1 (.cons q2 .nil), .none_, hsp d d' b noG _ pp rfl, fun x G' v H' e1 xx rr qq => by
      subst e1
      rw [VR] at qq
      subst qq
      exact k H' fun a o h => (xx.ex a o h rfl).1⟩
def dEqI (P : D → D → Bool → Prop) (neg : Bool) : DR2 := fun x y G Q => ∃ b, P x y b ∧ Q (.bl (neg != b)) G
theorem z4t (hc : ∀ d e b, P d e b → ∃ fs ds gs es, d = .nd (.ins C fs) ds ∧ e = .nd (.ins C gs) es) {neg : Bool} {n : Nat} (h : RcX X n neg (zaan C (RSmB X.ml P))) (hr : Room n X.A) : OpD X (compareOp (opE neg)) (dEqI P neg) := fun pins s σ H x y v u Q I rx ry ⟨dx, dy, G, R, hh, q1, q2, ⟨b, p, t⟩, k⟩ => by
  refine z95 h hr pins s σ H x y v u Q I rx ry ⟨b, ?_, fun H' e => k (.bl (neg != b)) G (.bl (neg != b)) H' t (zpe e) (hh.grow e) (by rw [VR])⟩
  obtain ⟨fs, ds, gs, es, rfl, rfl⟩ := hc _ _ _ p
  have q1' := q1.loose
  have q2' := q2.loose
  rw [VR] at q1 q2
  obtain ⟨a, vs, rfl, ⟨_, _, dx, h1⟩, r1⟩ := q1
  obtain ⟨c, ws, rfl, ⟨_, _, dy, h2⟩, r2⟩ := q2
  exact ⟨a, c, dx, dy, _, _, rfl, rfl, h1, h2, _, _, q1', q2', p⟩
theorem z90 (hr : Room (m + 1) X.A) (hc : EqBC X m C P) (hn : NeC X.K C) : OpD X (compareOp .NotEq) (dEqI P true) := by
  obtain ⟨f, fd, ps, sp, F, hsp, me, hb⟩ := hc.own
  exact z4t (neg := true) hc.ins (z59 (E := fun _ _ _ => False) (z8y F hsp) hn.mro hn.ne me.at_ me.fn hb z1z) hr
end
end DL
namespace DL
open PySem PySem.Spec PyProof.Rows L2
section
variable {X : Cx} {m m2 : Nat} {C : Addr} {P P2 : D → Prop}
/-- items of two tuples: the same trees, or numbers -/
inductive ItsT (P : D → Prop) (n : Nat) : List D → List D → Bool → Prop
  | nil : ItsT P n [] [] true
  | same {d : D} {ds es : List D} {b : Bool} : SmT P n d → ItsT P n ds es b → ItsT P n (d :: ds) (d :: es) b
  | int {i j : Int} {ds es : List D} {b : Bool} : ItsT P n ds es b → ItsT P n (.int i :: ds) (.int j :: es) (decide (i = j) && b)
theorem ItsT.len {n : Nat} {ds es : List D} {b : Bool} (h : ItsT P n ds es b) : ds.length = es.length := by
  induction h with
  | nil => rfl
  | same _ _ ih => rw [List.length_cons, List.length_cons, ih]
  | int _ ih => rw [List.length_cons, List.length_cons, ih]
end
end DL
namespace ZM
open PySem PySem.Spec PyProof.Rows L2
open PySem.Sem (wp)
section
variable {prog : Program} {w : World} {A : Around}
variable {E : Value → Shared → Prop} {s : Shared}
/-- the heap with zip's five cells behind it -/
def made (h : Heap) (l1 l2 : Addr) : Heap :=
  ((((h.push { cls := .type "tuple_iterator", data := .fields #[.ref l1, .int 0 0] }).push { cls := .type "list_iterator", data := .fields #[.ref l2, .int 0 0] }).push
    { cls := .type "tuple", data := .seq #[.ref h.objs.size, .ref (h.objs.size + 1)] }).push { cls := .type "tuple", data := .seq #[.none, .none] }).push
    { cls := .type "zip", data := .fields #[.none, .bool false, .bool false, .ref (h.objs.size + 2), .ref (h.objs.size + 3)] }
/-- zip's cells as they stand between two turns -/
structure Zs (a b z TI TO i1 i2 : Addr) (i : Nat) (h : Heap) : Prop where
  hz : IsZip h z TI TO .none
  hp : IsPair h TI (.ref i1) (.ref i2)
  ho : ∃ x y, IsPair h TO x y
  h1 : h.IsTupleIter i1 a i
  h2 : h.IsListIter i2 b i
theorem Zs.lt {a b z TI TO i1 i2 : Addr} {i : Nat} {h : Heap} (Z : Zs a b z TI TO i1 i2 i h) : ∀ c ∈ [z, TI, TO, i1, i2], c < h.objs.size := by
  obtain ⟨hz, hp, ⟨x, y, ho⟩, ⟨_, h1, _⟩, ⟨_, h2, _⟩⟩ := Z
  intro c hc
  simp only [List.mem_cons, List.not_mem_nil, or_false] at hc
  rcases hc with rfl | rfl | rfl | rfl | rfl
  · exact Heap.lt_size hz
  · exact Heap.lt_size hp
  · exact Heap.lt_size ho
  · exact Heap.lt_size h1
  · exact Heap.lt_size h2
end
end ZM
namespace DL
open PySem PySem.Spec PyProof.Rows L2
end DL
namespace DL
open PySem PySem.Spec PyProof.Rows L2
section
variable {X : Cx}
/-- int(text) -/
def z8u : DRn := d1 fun d G Q => ∃ (a : Str) (n : Int), d = .str a ∧ PySem.intText? a = some n ∧ a.length ≤ 640 ∧ Q (.int n) G
theorem z4b : zkv X (.type "int") z8u := zm0 fun pins s σ H G x v d P I rx hr q1 ⟨a, n, e, hn, hl, t⟩ => by
  subst e
  rw [VR] at q1; subst q1
  exact thn (call_int_str pins s σ H [.str a] [v] (fun z' H' => z' = .int n ∧ H' = H) I (.cons rx .nil) ⟨a, n, rfl, hn, hl, rfl, rfl⟩) fun w s' ⟨z', H', I', rz, e1, e2⟩ => by
    subst e1 e2
    exact zak I' rz hr (by rw [VR]) t
/-- str(int) -/
def z1p : DRn := d1 fun d G Q => ∃ i : Int, d = .int i ∧ i.natAbs.log2 < 1920 ∧ Q (.str (toString i)) G
theorem zy8 : zkv X (.type "str") z1p := zm0 fun pins s σ H G x v d P I rx hr q1 ⟨i, e, hl, t⟩ => by
  subst e
  rw [VR] at q1; subst q1
  exact thn (call_str_int pins s σ H [.int i] [v] (fun z' H' => z' = .str (toString i) ∧ H' = H) I (.cons rx .nil) ⟨i, rfl, hl, rfl, rfl⟩) fun w s' ⟨z', H', I', rz, e1, e2⟩ => by
    subst e1 e2
    exact zak I' rz hr (by rw [VR]) t
theorem zyy {K : Ml} {H : Hp} {G : DHp} : ∀ {ys : List Str} {vs : List V}, VRs K H G (ys.map D.str) vs → vs = ys.map V.str
  | [], vs, h => by
    cases h.nil_of
    rfl
  | y :: ys, vs, h => by
    obtain ⟨v, r, rfl, h1, h2⟩ := h.uncons
    rw [VR] at h1
    rw [h1, zyy h2]
    rfl
theorem zyx {K : Ml} {H : Hp} {G : DHp} : ∀ ys : List Str, VRs K H G (ys.map D.str) (ys.map V.str)
  | [] => .nil
  | y :: ys => .cons (by rw [VR]) (zyx ys)
/-- sep.join(a list of texts) -/
def zzq : DRn := d2 fun x d G Q => ∃ (a : Str) (ys : List Str), x = .str a ∧ der d G = .nd .lst (ys.map D.str) ∧ (ys.map (·.length)).sum + ys.length * a.length ≤ 16777216 ∧ Q (.str (Txt.join a ys)) G
theorem zsy : MtD X "str.join" zzq := zuw fun pins s σ H G x y v u d e P I rx ry hr q1 q2 ⟨a, ys, e1, e2, hz, t⟩ => by
  subst e1
  rw [VR] at q1; subst q1
  obtain ⟨p, vs, rfl, h1, h2⟩ := zlz hr q2 e2
  rw [zyy h2] at h1
  exact thn (mt_join pins s σ H (.str a) [.ref p] v [u] (fun z' H' => z' = .str (Txt.join a ys) ∧ H' = H) I rx (.cons ry .nil) ⟨a, p, ys, rfl, rfl, .inl (.inl (.inl h1)), hz, rfl, rfl⟩) fun w s' ⟨z', H', I', rz, e1, e2⟩ => by
    subst e1 e2
    exact zak I' rz hr (by rw [VR]) t
/-- text.split(sep): a new list -/
def z6r : DRn := d2 fun x y G Q => ∃ (a b : Str), x = .str a ∧ y = .str b ∧ (b.length == 0) = false ∧ a.length + 2 ≤ sizeLine ∧ ∀ p, G p = none → Q (.ref p) (up G p (.lst ((Txt.split a b).map D.str)))
theorem z4x : MtD X "str.split" z6r := zuw fun pins s σ H G x y v u d e P I rx ry hr q1 q2 ⟨a, b, e0, e1, hb, hz, t⟩ => by
  subst e0 e1
  rw [VR] at q1 q2; subst q1 q2
  refine thn (mt_split pins s σ H (.str a) [.str b] v [u] (fun z' H' => ∃ p, H p = none ∧ z' = .ref p ∧ H' = upd H p (.lst ((Txt.split a b).map V.str))) I rx (.cons ry .nil) ⟨a, b, rfl, rfl, hb, hz, fun p hp => ⟨p, hp, rfl, rfl⟩⟩) fun w s' ⟨z', H', I', rz, p, hp, e1, e2⟩ => ?_
  subst e1 e2
  exact ⟨.ref p, .ref p, _, _, I', rz, t p (hr.free hp), .new hp, hr.new hp ⟨_, upd_same, zyx _⟩, by rw [VR]⟩
/-- text[i] -/
def dIxS : DR2 := fun x y G Q => ∃ (z : Str) (i : Int) (c : Nat), x = .str z ∧ y = .int i ∧ z.length ≤ sizeLine ∧ atI z.cps.toList i = some c ∧ Q (.str ⟨#[c]⟩) G
theorem ixdS : IxD X dIxS := by
  intro value slice pins s σ H x y v u Q I rx ry ⟨dx, dy, G, P, hr, q1, q2, ⟨z, i, c, e1, e2, hz, ha, t⟩, k⟩ hs
  subst e1 e2
  rw [VR] at q1; subst q1; rw [VR] at q2; subst q2
  exact ix_str value slice pins s σ H (.str z) (.int i) v u Q I rx ry ⟨z, i, c, rfl, rfl, hz, ha, zrv k hr t (by rw [VR])⟩ hs
/-- one sign in a text -/
def dInS (neg : Bool) : DR2 := fun x y G Q => ∃ (c : Nat) (z : Str), x = .str ⟨#[c]⟩ ∧ y = .str z ∧ Q (.bl (neg != decide (c ∈ z.cps.toList))) G
theorem z2c : OpD X (compareOp .NotIn) (dInS true) := zjo fun pins s σ H G x y v u dx dy P I rx ry hr q1 q2 ⟨c, z, e1, e2, t⟩ => by
  subst e1 e2
  rw [VR] at q1 q2; subst q1 q2
  exact thn (op_notIn_sign pins s σ H _ _ v u (fun z' H' => z' = .bl (!decide (c ∈ z.cps.toList)) ∧ H' = H) I rx ry ⟨c, z, rfl, rfl, rfl, rfl⟩) fun w s' ⟨z', H', I', rz, e1, e2⟩ => by
    subst e1 e2
    exact zak (d := .bl (!decide (c ∈ z.cps.toList))) I' rz hr (by rw [VR]) (by simpa using t)
/-- text * int, a small one -/
def zaaq : DR2 := fun x y G Q => ∃ (z : Str) (n : Int), x = .str z ∧ y = .int n ∧ PySem.MulOk z n ∧ Q (.str (Txt.mul z n)) G
theorem z8l : OpD X (binaryOp .Mult) zaaq := zjo fun pins s σ H G x y v u dx dy P I rx ry hr q1 q2 ⟨z, n, e1, e2, hk, t⟩ => by
  subst e1 e2
  rw [VR] at q1; subst q1; rw [VR] at q2; subst q2
  obtain ⟨t1, rfl⟩ := rx
  obtain ⟨t2, rfl⟩ := ry
  exact PySem.SB.mul hk fun t' k => zak (z := .str (Txt.mul z n)) (I.tok k) ⟨t', rfl⟩ hr (by rw [VR]) t
def IteS (x : Str) : It :=
  ⟨fun i _ => i < x.cps.size, fun i H v H' => ∃ T c, v = .ref T ∧ H T = none ∧ H' = upd H T (.tup [.int (i : Nat), .str ⟨#[c]⟩]) ∧ x.cps[i]? = some c, fun i _ => x.cps.size ≤ i⟩
theorem z1l {P : Program} {w : World} {K : PySem.W.Frag} {elts : List Expr} {kk : Nat} {tpos : Pos} (x : Str) (t : Tok) (e it : Addr) (ty : String) (hty : ty = "str_ascii_iterator" ∨ ty = "str_iterator") :
    Turn P w K (.Tuple elts kk tpos) (IteS x) [e, it] e (fun i h => (∃ old, IsEnum h e it ((i : Nat) : Int) old) ∧ h.IsStrIter it ty x t i ∧ e ≠ it) where
  mem := .head _
  obj := fun i h ⟨⟨old, he⟩, ⟨o, ho, _, hd⟩, _⟩ b hb => by
    simp only [List.mem_cons, List.not_mem_nil, or_false] at hb
    rcases hb with rfl | rfl
    · exact ⟨_, he, fun _ q => (nomatch q)⟩
    · exact ⟨o, ho, fun _ q => by rw [hd] at q; cases q⟩
  keep := fun i h h' ⟨⟨old, he⟩, ⟨o, ho, r⟩, n⟩ k => ⟨⟨old, k _ (by simp) _ he⟩, ⟨o, k _ (by simp) o ho, r⟩, n⟩
  item := by
    intro X hP hw hK hc i pins s σ H E I hf ⟨⟨old, he⟩, hi, n⟩ hg
    subst hP hw hK
    have lt1 : e < s.heap.objs.size := Heap.lt_size he
    have lt2 : it < s.heap.objs.size := by
      obtain ⟨_, q, _⟩ := hi
      exact Heap.lt_size q
    have D : Draws X.prog X.w X.A.in1 it [it] x.cps.size (fun i v => ∃ c u, x.cps[i]? = some c ∧ v = .str ⟨#[c]⟩ u) (fun i h => h.IsStrIter it ty x t i) := by
      rcases hty with q | q
      · rw [q]; exact Draws.strAscii (A := X.A.in1) (I.ok.hd hc) it x t
      · rw [q]; exact Draws.strWide (A := X.A.in1) (I.ok.hd hc) it x t
    refine wpAny_pyNext_enum_itemD D he hi hg n (by simpa using n) fun y h' tk ⟨c, u, hcx, hy⟩ ho hi' hT hsz hk => ?_
    subst hy
    refine ⟨_, rfl, wpAny_letOwnedTupleGo_enum (s := { s with heap := h', toks := tk + 1 }) ho fun h'' he' sb => ?_⟩
    have hT2 : h''.get? s.heap.objs.size = some { cls := .type "tuple", data := .seq #[.int i tk, .str ⟨#[c]⟩ u] } := (sb.2 _ (Nat.ne_of_gt lt1)).trans hT
    have new : ObjOk X.prog X.w (upd H s.heap.objs.size (.tup [.int (i : Nat), .str ⟨#[c]⟩])) h'' s.heap.objs.size (.tup [.int (i : Nat), .str ⟨#[c]⟩]) :=
      ⟨by show 2 ≤ sizeLine; decide, [.int i tk, .str ⟨#[c]⟩ u], .cons ⟨_, rfl⟩ (.cons ⟨_, rfl⟩ .nil), ⟨_, hT2, rfl, _, rfl⟩⟩
    have I1 : Inv X pins σ (upd H s.heap.objs.size (.tup [.int (i : Nat), .str ⟨#[c]⟩])) { s with heap := h'', toks := tk + 1 } :=
      I.turnedNew (ch := [e, it]) (fun b ob hb q => (sb.2 b (fun z => hb (by simp [z]))).trans (hk b ob (fun z => hb (by simp [z])) (fun z => hb (by simp [z])) q)) hf (Nat.le_refl _) new
    refine ⟨.ref s.heap.objs.size, _, I1, rfl, ⟨_, c, rfl, I.hok.fresh (Nat.le_refl _), rfl, hcx⟩, ⟨⟨_, he'⟩, ?_, n⟩, fun b hb => ?_⟩
    · obtain ⟨o, q, r⟩ := hi'
      exact ⟨o, (sb.2 _ n.symm).trans q, r⟩
    · have lt : b < s.heap.objs.size := by
        simp only [List.mem_cons, List.not_mem_nil, or_false] at hb
        rcases hb with rfl | rfl
        · exact lt1
        · exact lt2
      rw [upd_ne (Nat.ne_of_lt lt)]
      exact (hf b hb).1
  done := by
    intro X hP hw hK hc i pins s σ H E I hf ⟨⟨old, he⟩, hi, n⟩ hg
    subst hP hw hK
    have D : Draws X.prog X.w X.A.in1 it [it] i (fun _ _ => True) (fun j h => j = i ∧ h.IsStrIter it ty x t i) := by
      have nx : x.cps[i]? = none := Array.getElem?_eq_none hg
      refine ⟨fun _ _ ⟨_, o, ho, _⟩ => ⟨o, ho⟩, fun _ _ _ ⟨e0, o, ho, r⟩ hk => ⟨e0, o, hk it (by simp) o ho, r⟩, fun j s Q E hj st hQ => absurd st.1 (Nat.ne_of_lt hj), fun s Q E st hE => ?_⟩
      rcases hty with q | q
      · subst q; exact wpAny_nextOf_ascii_end (I.ok.hd hc) st.2 nx hE
      · subst q; exact wpAny_nextOf_wide_end (I.ok.hd hc) st.2 nx hE
    obtain ⟨f0, f1, f2, f3, f4, f5⟩ := hf it (by simp)
    exact wpAny_pyNext_enum_endD D he ⟨rfl, hi⟩ fun h' eb => ⟨rfl, I.turned (t' := s.toks) (fun b o hb q => eb b o hb q) f0 f1 f3 f4 f5⟩
  self := fun A i s Q E ⟨⟨_, he⟩, _⟩ h => wpAny_pyIter_enum he h
def zaat (ta : TA) : TI := fun σ H R => ta σ H fun vs H1 => ∃ x, vs = [.str x] ∧ R (IteS x) H1
theorem z49 {X : Cx} {e : Expr} {ta : TA} {p pos tpos : Pos} {elts : List Expr} {kk : Nat} (hg : Gl X "enumerate") (hm : X.mg "enumerate" = none) (ha : PA X [e] ta) (hs : starEach [e] X.env = [(false, eval e X.env)] := by rfl) :
    PI X (.Tuple elts kk tpos) (.Call (.Name "enumerate" p) [e] [] pos) (zaat ta) := by
  refine ⟨fun pins s σ H R I h => ?_⟩
  refine Call_ (ld_blt I hg hm boot_enumerate (PyProof.Rows.callWith_type1 (thn (ha.run pos pins s σ H _ I h) fun us s1 ⟨vs, H1, I1, r1, x, e1, q⟩ => ?_) hs rfl))
  subst e1
  obtain ⟨u, rfl, r⟩ := vals1 r1
  obtain ⟨t, rfl⟩ := r
  refine call_enumerate_str fun h' he hit hsz hk => wpAny_pyIter_enum he ?_
  have ty : strIterType x = "str_ascii_iterator" ∨ strIterType x = "str_iterator" := by
    unfold strIterType
    split
    · exact .inl rfl
    · exact .inr rfl
  have fr : ∀ c, c ∈ [s1.heap.objs.size + 1, s1.heap.objs.size] → FpOk X pins H1 c := fun c hc => by
    have le : s1.heap.objs.size ≤ c := by
      simp only [List.mem_cons, List.not_mem_nil, or_false] at hc
      omega
    exact I1.fpOk le (I1.hok.fresh le)
  exact ⟨s1.heap.objs.size + 1, [s1.heap.objs.size + 1, s1.heap.objs.size], _, _, H1, rfl, I1.kept (t' := s1.toks) hk, z1l x t (s1.heap.objs.size + 1) s1.heap.objs.size _ ty, ⟨⟨.none, he⟩, hit, Nat.succ_ne_self _⟩, fr, q⟩
/-- the signs of a text -/
def sgnL (x : Str) : List D := x.cps.toList.map fun c => .str ⟨#[c]⟩
theorem IteS.itD {K : Ml} {H1 : Hp} {G1 : DHp} {x : Str} : ItD K H1 G1 (IteS x) (zli (sgnL x)) zcm := by
  intro i H G e r o
  have hl : (zli (sgnL x)).length = x.cps.size := by rw [zk0]; unfold sgnL; rw [List.length_map, Array.length_toList]
  refine ⟨fun d hd => ?_, fun l => by rw [hl] at l; exact l⟩
  have hi := (List.getElem?_eq_some_iff.mp hd).1
  rw [hl] at hi
  obtain ⟨z, e1, rfl⟩ := zjg hd
  refine ⟨hi, fun y H' ⟨T, c, e3, hT, e5, hc⟩ => ?_⟩
  subst e3 e5
  unfold sgnL at e1
  rw [List.getElem?_map, Array.getElem?_toList, hc] at e1
  cases e1
  have x2 : Ext H G (upd H T (.tup [.int (i : Nat), .str ⟨#[c]⟩])) G := .laid hT
  refine ⟨x2, r.laid hT, ?_⟩
  rw [VR]
  exact ⟨T, _, rfl, .inl (.inl upd_same), .cons (by rw [VR]) (.cons (by rw [VR]) .nil)⟩
def zs5 (T : DTA) : DTI := fun η G R => T η G fun ds G1 => ∃ x, ds = [.str x] ∧ R (zli (sgnL x)) zcm G1
theorem zyq [Bs] {X : Cx} {e : Expr} {T : DTA} {p pos tpos : Pos} {elts : List Expr} {kk : Nat} (hm : X.mg "enumerate" = none) (ha : PAD X [e] T) (hg : Gl X "enumerate" := by rfl) (hs : starEach [e] X.env = [(false, eval e X.env)] := by rfl) :
    PID X (.Tuple elts kk tpos) (.Call (.Name "enumerate" p) [e] [] pos) (zs5 T) := by
  refine ⟨fun pins s σ H R I ⟨η, G, P, hs', hr, t, k⟩ => (z49 hg hm ha hs).run pins s σ H R I ⟨η, G, _, hs', hr, t, fun ds G1 vs H1 ⟨x, e1, p⟩ xx r q => ?_⟩⟩
  subst e1
  obtain ⟨v1, r1, rfl, a1, q1⟩ := q.uncons
  cases q1.nil_of
  rw [VR] at a1
  subst a1
  exact ⟨x, rfl, k _ _ G1 _ H1 p xx r IteS.itD⟩
end
end DL
namespace HB
open PySem PySem.Spec PyProof.Rows L2
theorem z7n {l : PySem.W.OpenLaw} {k : Nat} {q : Program} {loose : List Str} {XP : (Str → Option Value) → Heap → Prop} {YP : World → Heap → Prop} {d : DefRec} {x : Str}
    (hn : l.most = some 63) (hdf : d.params.defaults = []) (hr : Room k callerA)
    (F : ∀ (w : World) (mg : Str → Option Value) (fa : Addr) (h : Heap), YP w h → h.Ns mainGlobals mg → mg d.name = some (.ref fa) →
      ∃ (K : PySem.W.Frag) (fd : FuncData), K.In h ∧ (∀ (s : Shared) (u : Value), BindsTo s fd ⟨[u], []⟩ [(x, u)]) ∧
        ∀ base : Heap, K.In base → base.Ns mainGlobals mg → DL.FnD l.prog w K mg base k fa fd [x] DL.z3c) :
    PySem.W.WalkO q loose XP YP l.row.toRowW d [] (fun f vs => PySem.call f vs) :=
  L2.walk_ofE (CX := CX0) hn (by decide) hdf hr (fun w mg fa h Y G hm => by
    obtain ⟨K, fd, KX, hb, hF⟩ := F w mg fa h Y G hm
    refine ⟨K, fd, fun vs H Q _ => DL.zz8 ⟨K, w⟩ DL.z3c vs H Q, KX, hb, fun H a ns h1 h2 h3 => ?_, hF⟩
    have hs : DL.VR ⟨K, w⟩ H (fun _ => none) (.nd .scr (ns.map .int)) (.ref a) := by
      rw [DL.VR]
      refine ⟨a, _, rfl, ?_, .of_ints ns⟩
      rcases h3 with (h3 | ⟨o, h3⟩) | h3
      · rcases h2 a with z | ⟨ob, xs, z⟩
        · rw [h3] at z; cases z
        · rw [h3] at z; cases z
      · exact .inl ⟨o, h3⟩
      · exact .inr h3
    exact ⟨[.nd .scr (ns.map .int)], fun _ => none, fun v _ => v = .bl true, .cons hs .nil, (fun a o e => by cases e), ⟨ns, rfl, h1, fun _ => rfl, fun _ => rfl⟩, fun d G' v H' p _ _ q => by
      subst p
      rw [DL.VR] at q
      exact q⟩) fun _ _ _ _ z => z
end HB
namespace DX
open PySem PySem.W PySem.Calls PyProof.Rows PySem.HandSPX
open Builtin Builtin.ObjectAttr
section
variable {prog : Program} {w : World} {A : Around} {E : Value → Shared → Prop} {R : Result → Shared → Prop} {hp : Heap} {g : Array GenState} {d : Drawn} {t : Nat} {os : OsState} {K : W.Frag} {x C : Addr}
/-- the first field of a new exception -/
theorem zaaf {name : Str} {tk : Tok} {v : Value} {fv : Array Value} (X : K.In hp) (hx : hp.get? x = some { cls := .ref C, data := .fields fv }) (ov : excOver K C ESX.exTail = true) (ht : takerIn K C name = some none) (hd : hasDictIn K C = true)
    (hq : ∀ h' tk' dx, (∀ b o, b ≠ x → hp.get? b = some o → h'.get? b = some o) → hp.objs.size ≤ dx → dx ≠ x → h'.get? x = some { cls := .ref C, dict := some dx, data := .fields fv } → h'.Ns1 dx (fun y => if y = name then some v else none) →
      R (.ok (.ret .none)) ⟨h', g, d, tk', os⟩) :
    codeAny (model prog w) A (.call (.builtin "object.__setattr__") ⟨[.ref x, .str name tk, v], []⟩) R ⟨hp, g, d, t, os⟩ := by
  have I : InstAt hp x { cls := .ref C, data := .fields fv } C none := ⟨hx, rfl, rfl, trivial⟩
  have ne : x ≠ hp.objs.size := Nat.ne_of_lt (Heap.lt_size hx)
  obtain ⟨cd, hc, hdd⟩ := any_some hd
  have lc : Looks (model prog w) hp (classData C) cd := looks_clsIn X hc
  refine osa_openX (s := ⟨hp, g, d, t, os⟩) PySem.F.store_Exception X I ov ht fun b => ?_
  obtain ⟨nm, bs, mro, ns, qn, hD, sn, sb, ab, col, del⟩ := cd
  dsimp only at hdd
  subst hdd
  dsimp only
  unfold storeInOwnDict ownDictForStores
  repeat (first | with_reducible refine store_in_new ?_ ?_ | with_reducible refine wpAny_loadPart_at hx ?_ | with_reducible refine lc.at ?_ | wp_step)
  · exact ⟨_, #[], _, (Heap.get?_update_ne _ _ _ _ ne.symm).trans (Heap.get?_push_at rfl rfl), rfl, fun e he => (by simp at he), fun _ => rfl⟩
  · intro h' tk' hn same
    have h1 : (hp.push { cls := .type "dict", data := .dict #[] }).get? x = some { cls := .ref C, data := .fields fv } := Heap.get?_push_of_some _ hx
    exact hq h' tk' hp.objs.size
      (fun b o hb ho => by
        rw [same.2 b (Nat.ne_of_lt (Heap.lt_size ho)), Heap.get?_update_ne _ _ _ _ hb]
        exact Heap.get?_push_of_some _ ho)
      (Nat.le_refl _) ne.symm (by rw [same.2 x ne]; exact Heap.get?_update_self _ h1 rfl) hn
end
end DX
namespace DX
open PySem PySem.W PySem.Calls PyProof.Rows PySem.HandSPX
section
variable {prog : Program} {w : World} {A : Around} {E : Value → Shared → Prop} {R : Result → Shared → Prop} {K : Frag} {mg : Str → Option Value} {x C fI : Addr} {y f : Str}
theorem z9t {h : Heap} {D : Addr} {cd : ClassData} (X : K.In h) (hD : clsIn K D = some cd) : ∃ o, h.get? D = some o ∧ o.data = .cls cd := by
  unfold clsIn at hD
  split at hD
  · rename_i ho
    cases hD
    exact ⟨_, X _ _ ho, rfl⟩
  · cases hD
end
end DX
namespace DL
open PySem PySem.Spec PyProof.Rows L2
end DL
namespace DL
open PySem PySem.Spec PyProof.Rows L2
/-- an exception: its class, its fields -/
structure XV where
  C : Addr
  fs : List (Str × D)
/-- what is wished of an exception, at the slots -/
abbrev DXK := XV → DSt → DHp → Prop
/-- .. by a caller -/
abbrev DXP := XV → DHp → Prop
structure XR (K : Ml) (H : Hp) (G : DHp) (x : XV) (cls : Value) (d : Option Addr) : Prop where
  cls : cls = .ref x.C
  fs : ∃ (dd : Addr) (ws : List (Str × V)), d = some dd ∧ G dd = none ∧ H dd = some (.xd ws) ∧ ws.map (·.1) = x.fs.map (·.1) ∧ VRs K H G (x.fs.map (·.2)) (ws.map (·.2))
theorem XR.ext {K : Ml} {H H' : Hp} {G G' : DHp} {x : XV} {cls : Value} {d : Option Addr} (hr : HR K H G) (e : Ext H G H' G') (h : XR K H G x cls d) : XR K H' G' x cls d := by
  obtain ⟨dd, ws, h1, h2, h3, h4, h5⟩ := h.fs
  obtain ⟨e1, e2⟩ := e.ex dd _ h3 h2
  exact ⟨h.cls, dd, ws, h1, e2, e1, h4, h5.ext hr e⟩
def ztu [Bs] (K : Ml) (E : DXK) : WX := fun cls d σ H => ∃ x η G, SR K H G σ η ∧ HR K H G ∧ XR K H G x cls d ∧ E x η G
/-- a promise of a def that may raise -/
abbrev DRnX := List D → DHp → DVK → DXP → Prop
def z99 (K : Ml) (r : DRnX) : Sp := fun vs H Q E => ∃ ds G P PX, VRs K H G ds vs ∧ HR K H G ∧ r ds G P PX ∧ (∀ d G' v H', P d G' → Ext H G H' G' → HR K H' G' → VR K H' G' d v → Q v H') ∧
  ∀ x G' cls d H', PX x G' → Ext H G H' G' → HR K H' G' → XR K H' G' x cls d → E cls d H'
abbrev FnX (P : Program) (w : World) (K : PySem.W.Frag) (mg : Str → Option Value) (base : Heap) (k : Nat) (f : Addr) (fd : FuncData) (ps : List Str) (sp : DRnX) : Prop := FnOk P w K mg base (L2.CX P w) k f fd ps (z99 ⟨K, w⟩ sp)
section
variable {P : Program} {w : World} {K : PySem.W.Frag} {mg : Str → Option Value} {base : Heap}
/-- the rule for a def that may raise -/
theorem fn_x {x qual : Str} {st : Stmt} {f : Addr} {fd : FuncData} {N ps : List Str} {k : Nat} {sp : DRnX} (F : Fun K x qual st f fd) (S : FnScope N ps (defScope st)) (len : ∀ ds G Q E, sp ds G Q E → ds.length = ps.length) {T : DXK → DTS}
    (hp : ∀ [Bs] (U : DXK) (cdv : Value) (A : Around) (outer : List Env) (s : Shared) (H : Hp) (E : XK), Room k (A.deeper (envOfC qual (defScope st) s.heap.objs.size f cdv)) → Takes (cxOf (L2.CX P w) P w K mg base N qual (defScope st) f cdv A outer s H E) (ztu ⟨K, w⟩ U) →
      PassesOwn (model P w) (cxOf (L2.CX P w) P w K mg base N qual (defScope st) f cdv A outer s H E).A (cxOf (L2.CX P w) P w K mg base N qual (defScope st) f cdv A outer s H E).env (cxOf (L2.CX P w) P w K mg base N qual (defScope st) f cdv A outer s H E).xe →
      PSsD (cxOf (L2.CX P w) P w K mg base N qual (defScope st) f cdv A outer s H E) (defBody st) (T U))
    (hs : ∀ ds G Q E, sp ds G Q E → T (fun x _ G' => E x G') { nx := fun _ G' => Q .non G', rt := Q } (zav N ds) G) : FnX P w K mg base (k + 1) f fd ps sp := by
  refine F.okX S (fun vs H Q E h => ?_) (fun cdv A outer s H vs Q E hr h => ?_)
  · obtain ⟨ds, G, Q', X', q, _, t, _⟩ := h
    rw [q.length]
    exact len _ _ _ _ t
  · obtain ⟨ds, G, Q', X', q, hr', t, k', kx⟩ := h
    letI : Bs := ⟨H, G⟩
    refine ⟨z1a ⟨K, w⟩ (T fun x _ G' => X' x G'), hp _ cdv A outer s H E hr ?_ (passes_of rfl), zav N ds, G, _, .st q (.refl _ _), hr', hs ds G Q' X' t, ?_⟩
    · exact (takes_of rfl rfl rfl rfl).imp fun cls d σ H' ⟨x, η, G', sr, hr2, xr, e⟩ => kx x G' cls d H' e sr.base hr2 xr
    · exact ⟨fun η G' σ H' p x _ r => k' _ _ _ _ p x r (by rw [VR]), fun d G' v H' p x r q => k' _ _ _ _ p x r q, fun _ _ _ _ p => p.elim, fun _ _ _ _ p => p.elim⟩
end
section
variable {X : Cx}
/-- a call of a def that may raise -/
def dCX (sp : DRnX) (U : DXK) (T : DTA) : DTE := fun η G Q => T η G fun ds G1 => sp ds G1 Q fun x G2 => U x η G2
theorem zxh [Bs] {k : Nat} {f : Addr} {fd : FuncData} {ps : List Str} {sp : DRnX} {U : DXK} {x : Str} {p pos : Pos} {e : Expr} {es : List Expr} {T : DTA} (F : FnX X.prog X.w X.K X.mg X.base k f fd ps sp) (hr : Room k X.A) (hm : X.mg x = some (.ref f)) (hk : PySem.W.keepIn X.K (.ref f) = true) (hb : Binds X.K fd ps [])
    (tk : Takes X (ztu X.ml U)) (ha : PAD X (e :: es) T) (hg : Gl X x := by rfl) (hdb : (x == ("__debug__" : Str)) = false := by decide) (he : starEach (e :: es) X.env = (false, eval e X.env) :: starEach es X.env := by rfl) (hpl : (backTo pos (starEach es X.env)).any (·.1) = false := by rfl) :
    PED X (.Call (.Name x p) (e :: es) [] pos) (dCX sp U T) :=
  PE.impI (pe_callS F hr hg hm hk hb (fun σ => passAt tk σ) ha hdb he hpl) fun _ _ σ H Q _ ⟨η, G, P, sr, hr, t, k⟩ => ⟨η, G, _, sr, hr, t, fun ds G1 vs H1 p x1 r1 q1 =>
    ⟨ds, G1, P, _, q1, r1, p, fun d G2 v H2 pd x2 r2 q2 => k d G2 v H2 pd (x1.trans x2) r2 q2, fun xv G2 cls d H2 pe x2 r2 xr => ⟨xv, η, G2, (sr.ext hr x1).ext r1 x2, r2, xr, pe⟩⟩⟩
end
section
variable {X : Cx}
/-- a base put in the place of another -/
theorem SR.rebase {b b' : Bs} {K : Ml} {H : Hp} {G : DHp} {σ : L2.St} {η : DSt} (h : @SR b K H G σ η) (x : Ext b'.H0 b'.G0 H G) : @SR b' K H G σ η := @SR.mk b' K H G σ η (@SR.len b _ _ _ _ _ h) (@SR.get b _ _ _ _ _ h) x
/-- the exceptions' ends: slot i is given up -/
def zaak (i : Nat) (F : zh5) : zh5 := { nx := fun η G => F.nx (η.set i none) G, rt := F.rt, bk := fun η G => F.bk (η.set i none) G, ct := fun η G => F.ct (η.set i none) G }
/-- ends, from another base -/
theorem zjm.rebase {b b' : Bs} {K : Ml} {H H' : Hp} {G G' : DHp} {F : zh5} {E : Ends} (e : @zjm b K H G F E) (x0 : Ext b.H0 b.G0 H G) (x : Ext H G H' G') : @zjm b' K H' G' F E :=
  @zjm.mk b' K H' G' F E (fun η2 G2 σ2 H2 p x2 sr2 hr2 => @zjm.nx b _ _ _ _ _ e η2 G2 σ2 H2 p (x.trans x2) (SR.rebase (b := b') (b' := b) sr2 ((x0.trans x).trans x2)) hr2)
    (fun d2 G2 v2 H2 p x2 hr2 q => @zjm.rt b _ _ _ _ _ e d2 G2 v2 H2 p (x.trans x2) hr2 q)
    (fun η2 G2 σ2 H2 p x2 sr2 hr2 => @zjm.bk b _ _ _ _ _ e η2 G2 σ2 H2 p (x.trans x2) (SR.rebase (b := b') (b' := b) sr2 ((x0.trans x).trans x2)) hr2)
    (fun η2 G2 σ2 H2 p x2 sr2 hr2 => @zjm.ct b _ _ _ _ _ e η2 G2 σ2 H2 p (x.trans x2) (SR.rebase (b := b') (b' := b) sr2 ((x0.trans x).trans x2)) hr2)
/-- .. with slot i given up -/
theorem zjm.gone {b : Bs} {K : Ml} {H : Hp} {G : DHp} {F : zh5} {E : Ends} (i : Nat) (e : @zjm b K H G F E) : @zjm b K H G (zaak i F) ({ nx := fun σ' H' => E.nx (σ'.set i none) H', rt := E.rt, bk := fun σ' H' => E.bk (σ'.set i none) H', ct := fun σ' H' => E.ct (σ'.set i none) H' }) :=
  @zjm.mk b K H G _ _ (fun η2 G2 σ2 H2 p x2 sr2 hr2 => @zjm.nx b _ _ _ _ _ e _ G2 _ H2 p x2 (sr2.none i _) hr2)
    (fun d2 G2 v2 H2 p x2 hr2 q => @zjm.rt b _ _ _ _ _ e d2 G2 v2 H2 p x2 hr2 q)
    (fun η2 G2 σ2 H2 p x2 sr2 hr2 => @zjm.bk b _ _ _ _ _ e _ G2 _ H2 p x2 (sr2.none i _) hr2)
    (fun η2 G2 σ2 H2 p x2 sr2 hr2 => @zjm.ct b _ _ _ _ _ e _ G2 _ H2 p x2 (sr2.none i _) hr2)
/-- try: tb / except C as n: ts; oth: classes that pass by it, to U -/
def z7w (C : Addr) (oth : List Addr) (i : Nat) (U : DXK) (tb : DXK → DTS) (ts : Addr → XV → DTS) : DTS := fun F η G => tb (fun x η' G' => (x.C = C ∧ ∀ a, ts a x (zaak i F) (η'.set i (some (.ref a))) G') ∨ (x.C ∈ oth ∧ U x η' G')) F η G
/-- the suite's reading at the hand layer -/
def suT (K : Ml) (ts : XV → DTS) : Value → Option Addr → TS := fun cls d E σ H => ∃ x G, XR K H G x cls d ∧ HR K H G ∧ @z1a ⟨H, G⟩ K (ts x) E σ H
theorem z9s {a : Addr} {oe : Obj} {pn : List (Addr × Obj)} {cls : Value} {d : Option Addr} {sts : List Stmt} {ts : XV → DTS}
    (h : ∀ [Bs] (x : XV), XR X.ml Bs.H0 Bs.G0 x cls d → HR X.ml Bs.H0 Bs.G0 → PSsD (X.suite a ((a, oe) :: pn)) sts (ts x)) : PSs (X.suite a ((a, oe) :: pn)) sts (suT X.ml ts cls d) :=
  ⟨fun pins s σ H E I ⟨x, G, xr, hr, l⟩ => by
    letI : Bs := ⟨H, G⟩
    exact (h x xr hr).run pins s σ H E I l⟩
/-- the body's reading at the hand layer -/
def boT (K : Ml) (tb : DXK → DTS) : WX → TS := fun W E σ H => ∃ (b : Bs) (U : DXK), (∀ cls d σ H, @ztu b K U cls d σ H → W cls d σ H) ∧ @z1a b K (tb U) E σ H
theorem z91 {Y : Cx} {sts : List Stmt} {tb : DXK → DTS} {W : WX} (tk : Takes Y W) (h : ∀ [Bs] (U : DXK), Takes Y (ztu Y.ml U) → PSsD Y sts (tb U)) : PSs Y sts (boT Y.ml tb W) :=
  ⟨fun pins s σ H E I ⟨b, U, i, l⟩ => (@h b U (tk.imp i)).run pins s σ H E I l⟩
theorem z5p [Bs] {C : Addr} {oth : List Addr} {i : Nat} {x n : Str} {U : DXK} {body suite : List Stmt} {b₀ : Stmt} {np pos pos' : Pos} {tb : DXK → DTS} {ts : Addr → XV → DTS} (hs : X.stack = X.env :: X.outer) (hf : X.env.frame = some X.env.locals) (hN : X.N.Nodup) (hi : X.N[i]? = some n) (hln : X.env.kindOf n = some .local)
    (hm : X.mg x = some (.ref C)) (te : PySem.W.exmOne X.K (.ref C) (.ref C) = some true) (to : ∀ C' ∈ oth, PySem.W.exmOne X.K (.ref C') (.ref C) = some false) (tk : Takes X (ztu X.ml U))
    (hb : ∀ [Bs] (U : DXK) (pn : List (Addr × Obj)) (xe : Value → Shared → Prop), Takes (X.tr pn xe) (ztu X.ml U) → PassesOwn (model X.prog X.w) X.A X.env xe → PSsD (X.tr pn xe) body (tb U))
    (hsu : ∀ [Bs] (a : Addr) (oe : Obj) (cls : Value) (d : Option Addr) (pn : List (Addr × Obj)) (x : XV), Zc cls d oe → (∃ vs, oe.data = .fields vs) → XR X.ml Bs.H0 Bs.G0 x cls d → HR X.ml Bs.H0 Bs.G0 → PSsD (X.suite a ((a, oe) :: pn)) (b₀ :: suite) (ts a x))
    (hg : Gl X x := by rfl) (hdb : (x == ("__debug__" : Str)) = false := by decide) :
    PSD X (.Try body [.ExceptHandler (some (.Name x np)) (some n) (b₀ :: suite) pos'] [] [] pos) (z7w C oth i U tb ts) := by
  refine PS.impI (ps_try_as (i := i) (c := .ref C) (Wout := ztu X.ml U) (tb := boT X.ml tb) (ts := fun a cls d => suT X.ml (ts a) cls d) hs hf hN hi hln ⟨hg, hdb, .inl hm⟩ tk (fun W pn xe t po => z91 (Y := X.tr pn xe) t fun U t' => hb U pn xe t' po) fun a oe cls d pn hz hv => z9s fun x xr hr => hsu a oe cls d pn x hz hv xr hr) ?_
  rintro _ _ σ H E _ ⟨η, G, F, sr, hr, t, er⟩
  refine ⟨⟨H, G⟩, _, ?w, η, G, F, sr.rebase (.refl _ _), hr, t, ?e⟩
  case w =>
    rintro cls d σ' H' ⟨x, η', G', sr', hr', xr, e⟩
    have xb : Ext H G H' G' := @SR.base ⟨H, G⟩ _ _ _ _ _ sr'
    have ec := xr.cls
    rcases e with ⟨e1, e2⟩ | ⟨e1, e2⟩
    · refine ⟨true, by rw [ec, e1]; exact te, fun _ a ha => ⟨x, G', xr, hr', η'.set i (some (.ref a)), G', _, ?_, hr', e2 a, ?_⟩, fun q => (nomatch q)⟩
      · exact @SR.set X.ml H' G' _ _ ⟨H', G'⟩ (SR.rebase (b := ⟨H, G⟩) (b' := ⟨H', G'⟩) sr' (.refl _ _)) _ _ i (by rw [VR])
      · exact zjm.gone (b := ⟨H', G'⟩) i (zjm.rebase (b' := ⟨H', G'⟩) er sr.base xb)
    · exact ⟨false, by rw [ec]; exact to _ e1, fun q => (nomatch q), fun _ => ⟨x, η', G', SR.rebase (b := ⟨H, G⟩) sr' (sr.base.trans xb), hr', xr, e2⟩⟩
  case e => exact zjm.rebase er sr.base (.refl _ _)
/-- n.f, n the exception that the suite holds -/
def dXF (a C : Addr) (x : XV) (f : Str) (T : DTE) : DTE := fun η G Q => T η G fun d G1 => d = .ref a ∧ x.C = C ∧ ∃ y, x.fs.lookup f = some y ∧ Q y G1
theorem z6i [Bs] {a C : Addr} {oe : Obj} {cls : Value} {d : Option Addr} {pn : List (Addr × Obj)} {x : XV} {e : Expr} {T : DTE} {pos : Pos} {n : Str} (t : XfC X.K C) (hno : PySem.W.findIn X.K (.ref C) n = some none)
    (hz : Zc cls d oe) (hv : ∃ vs, oe.data = .fields vs) (xr : XR X.ml Bs.H0 Bs.G0 x cls d) (hb : HR X.ml Bs.H0 Bs.G0) (he : PED (X.suite a ((a, oe) :: pn)) e T) (hbs : attributeBase e n X.env (eval e X.env) = eval e X.env := by rfl) :
    PED (X.suite a ((a, oe) :: pn)) (.Attribute e n pos) (dXF a C x n T) :=
  PE.impI (pe_xf t hno hz hv he hbs) fun _ _ σ H Q _ ⟨η, G, P, sr, hr, t, k⟩ => ⟨η, G, _, sr, hr, t, fun y G1 v H1 ⟨p1, p2, y', p3, p4⟩ x1 r1 q1 => by
    have xr1 : XR X.ml H1 G1 x cls d := xr.ext hb (sr.base.trans x1)
    obtain ⟨dd, ws, h1, h2, h3, h4, h5⟩ := xr1.fs
    obtain ⟨u, hu, q⟩ := zwk h4 h5 p3
    subst p1
    rw [VR] at q1
    exact ⟨q1, by rw [xr.cls, p2], dd, ws, u, h1, h3, hu, k _ _ _ _ p4 x1 r1 q⟩⟩
end
end DL
namespace DL
open PySem PySem.Spec PyProof.Rows L2
/-- no exception is wished -/
theorem z04 [Bs] {X : Cx} : Takes X (ztu X.ml fun _ _ _ => False) := fun _ _ x => by
  obtain ⟨a, B, sI, pins, σ, H, cls, d, e, I, nb, up, sky, na, os, ag, w⟩ := x
  obtain ⟨_, _, _, _, _, _, w⟩ := w
  exact w.elim
end DL
namespace DL
open PySem PySem.Spec PyProof.Rows L2
end DL
namespace DL
open PySem PySem.Spec PyProof.Rows L2
end DL
namespace DX
open PySem PySem.W PySem.Calls PyProof.Rows PySem.HandSPX
open Builtin Builtin.ObjectAttr
section
variable {prog : Program} {w : World} {A : Around} {E : Value → Shared → Prop} {R : Result → Shared → Prop} {hp : Heap} {g : Array GenState} {d : Drawn} {t : Nat} {os : OsState} {K : W.Frag} {x C : Addr}
/-- a further field of an exception that has its dict -/
theorem zaao {name : Str} {tk : Tok} {v : Value} {fv : Array Value} {dx : Addr} {m0 : Str → Option Value} {nl : List Str} (X : K.In hp) (hx : hp.get? x = some { cls := .ref C, dict := some dx, data := .fields fv }) (hns : hp.Ns1 dx m0) (hw : Within m0 nl) (hz : nl.length ≤ 1000)
    (ov : excOver K C ESX.exTail = true) (ht : takerIn K C name = some none) (hd : hasDictIn K C = true)
    (hq : ∀ h' tk', (∀ b o, b ≠ dx → hp.get? b = some o → h'.get? b = some o) → h'.Ns1 dx (fun y => if y = name then some v else m0 y) → R (.ok (.ret .none)) ⟨h', g, d, tk', os⟩) :
    codeAny (model prog w) A (.call (.builtin "object.__setattr__") ⟨[.ref x, .str name tk, v], []⟩) R ⟨hp, g, d, t, os⟩ := by
  obtain ⟨oD, esD, epD, hoD, hdD, _⟩ := hns.count hw
  have I : InstAt hp x { cls := .ref C, dict := some dx, data := .fields fv } C (some oD) := ⟨hx, rfl, rfl, hoD⟩
  obtain ⟨cd, hc, hdd⟩ := any_some hd
  have lc : Looks (model prog w) hp (classData C) cd := looks_clsIn X hc
  refine osa_openX (s := ⟨hp, g, d, t, os⟩) PySem.F.store_Exception X I ov ht fun b => ?_
  obtain ⟨nm, bs, mro, ns, qn, hD, sn, sb, ab, col, del⟩ := cd
  dsimp only at hdd
  subst hdd
  dsimp only
  unfold storeInOwnDict ownDictForStores
  repeat (first | with_reducible refine ESX.store_in_old hns hw hz ?_ | with_reducible refine wpAny_loadPart_at hx ?_ | with_reducible refine lc.at ?_ | wp_step)
  exact fun h' tk' hn same => hq h' tk' (fun b o hb ho => (same.2 b hb).trans ho) hn
end
/-- what the written part says of the class at C (of the program P) with its __init__ at fI: the fields f, f2 from the parameters y, y2 -/
structure z3q (P : Program) (K : Frag) (mg : Str → Option Value) (C fI : Addr) (y f y2 f2 : Str) : Prop where
  ini : excInitIn K C ESX.exTail "Exception.__new__" = true
  ov : excOver K C ESX.exTail = true
  nof : takerIn K C f = some none
  nof2 : takerIn K C f2 = some none
  ff : f2 ≠ f
  hd : hasDictIn K C = true
  sa : findIn K (.ref C) "__setattr__" = some (some (.builtin "object.__setattr__"))
  iC : findIn K (.ref C) "__init__" = some (some (.ref fI))
  isf : isFn K (.ref fI) = true
  kC : keepIn K (.ref C) = true
  exB : subIn K (.ref C) (.type "BaseException") = some true
  exE : subIn K (.ref C) (.type "Exception") = some true
  tyC : typeIn K (.ref C) = some (.type "type")
  self : mroIn K C (.ref C) = some true
  sup : ks_superIn K C C "__init__" = some (some (.builtin "Exception.__init__"))
  third : nsIn K cStatics "thirdparty.any" = some none
  nsup : mg "super" = none
  top : (P.main.scope.names.lookup ("super" : Str)).isSome = false
  fn : ∃ (oc : Value) (od : Option Addr) (qual : Str) (doc pm kV : Value) (an : Option Addr) (cda cc : Addr) (ct : Value) (osl : Array (Option Value)) (pa : Arguments) (body : List Stmt) (sco : Scope) (msg : Str) (j : Nat) (q1 q2 q3 q4 q5 q6 q7 q8 q9 q10 q11 q12 q13 q14 : Pos),
    K.lookup fI = some ⟨oc, od, .func (ksFn "__init__" qual pa body sco .none kV doc pm an (.ref cda) ct cc), osl⟩ ∧ codeIn K (.ref cda) qual = true ∧
    body = [.Expr (.Call (.Attribute (.Call (.Name "super" q1) [] [] q2) "__init__" q3) [.Constant (.str msg) j q4] [] q5) q6, .Assign [.Attribute (.Name "self" q7) f q8] (.Name y q9) q10, .Assign [.Attribute (.Name "self" q11) f2 q12] (.Name y2 q13) q14] ∧
    sco.kind = .function ∧ sco.isCoroutine = false ∧ sco.isGenerator = false ∧ sco.names.lookup ("super" : Str) = some .globalImplicit ∧ sco.names.lookup ("__class__" : Str) = some .free ∧ sco.names.lookup ("self" : Str) = some .local ∧ sco.names.lookup y = some .local ∧ sco.names.lookup y2 = some .local ∧ (∀ x ∈ sco.names, x.2 ≠ .cell) ∧
    (∃ ar : Arg, (pa.posonlyargs ++ pa.args).head? = some ar ∧ ar.arg = "self") ∧ (y == ("__debug__" : Str)) = false ∧ y ≠ "self" ∧ (y2 == ("__debug__" : Str)) = false ∧ y2 ≠ "self" ∧ y2 ≠ y ∧
    (∃ (ccl : Value) (cdd : Option Addr) (vs : Array Value) (ccs : Array (Option Value)) (file : Str) (tf : Tok), K.lookup cda = some ⟨ccl, cdd, .fields vs, ccs⟩ ∧ vs[2]? = some (.str file tf) ∧ ((P.main.file : Str) == file) = true) ∧
    (∃ (cl : Value) (cld : Option Addr) (csl : Array (Option Value)), K.lookup cc = some ⟨cl, cld, .cell (some (.ref C)), csl⟩) ∧
    (∃ pl : Sem Bool, ∀ L : Addr, eval (.Call (.Attribute (.Call (.Name "super" q1) [] [] q2) "__init__" q3) [.Constant (.str msg) j q4] [] q5) (ksEnv qual sco L fI (.ref cda) cc) = (do
      let ov ← attributeBase (.Call (.Name "super" q1) [] [] q2) "__init__" (ksEnv qual sco L fI (.ref cda) cc) (eval (.Call (.Name "super" q1) [] [] q2) (ksEnv qual sco L fI (.ref cda) cc))
      standAt q3.atName
      let (fx, first) ← holding [ov] (getMethod ov "__init__" pl)
      callWith q5 fx first (backTo q5 (starEach [.Constant (.str msg) j q4] (ksEnv qual sco L fI (.ref cda) cc))) [])) ∧
    (∀ L : Addr, interactive (ksEnv qual sco L fI (.ref cda) cc) = false ∧ swapsWith (.Call (.Attribute (.Call (.Name "super" q1) [] [] q2) "__init__" q3) [.Constant (.str msg) j q4] [] q5) none q6.line (ksEnv qual sco L fI (.ref cda) cc) = pure false ∧
      swapsWith (.Name y q9) (some (.Attribute (.Name "self" q7) f q8)) q10.line (ksEnv qual sco L fI (.ref cda) cc) = pure false ∧
      swapsWith (.Name y2 q13) (some (.Attribute (.Name "self" q11) f2 q12)) q14.line (ksEnv qual sco L fI (.ref cda) cc) = pure false ∧
      starEach [.Constant (.str msg) j q4] (ksEnv qual sco L fI (.ref cda) cc) = [(false, eval (.Constant (.str msg) j q4) (ksEnv qual sco L fI (.ref cda) cc))] ∧
      ∀ (M : Model) (A : Around) (Q : Value → Shared → Prop) (E : Value → Shared → Prop) (s : Shared), (∀ s' tk, s'.heap = s.heap → s'.gens = s.gens → s'.drawn = s.drawn → s'.os = s.os → Q (.str msg tk) s') → wpAny M A (eval (.Constant (.str msg) j q4) (ksEnv qual sco L fI (.ref cda) cc)) Q E s) ∧
    (∀ (s : Shared) (u v v2 : Value), BindsTo s (ksFn "__init__" qual pa body sco .none kV doc pm an (.ref cda) ct cc) ⟨[u, v, v2], []⟩ [("self", u), (y, v), (y2, v2)])
/-- what __init__ leaves -/
structure zabd (h h' : Heap) (x C dx t1 : Addr) (f : Str) (v : Value) (f2 : Str) (v2 : Value) : Prop where
  keep : ∀ b o, b ≠ x → h.get? b = some o → h'.get? b = some o
  obj : h'.get? x = some { cls := .ref C, dict := some dx, data := .fields #[.ref t1, .none, .none, .none, .bool false, .none] }
  dbig : h.objs.size ≤ dx
  dne : dx ≠ x
  ns : h'.Ns1 dx (fun z => if z = f2 then some v2 else if z = f then some v else none)
section
variable {prog : Program} {w : World} {A : Around} {E : Value → Shared → Prop} {R : Result → Shared → Prop} {K : Frag} {mg : Str → Option Value} {x C fI : Addr} {y f y2 f2 : Str}
theorem z24 (T : z3q prog K mg C fI y f y2 f2) {t0 : Addr} {v v2 : Value} {h : Heap} {g : Array GenState} {d : Drawn} {t : Nat} {os : OsState} (X : K.In h) (hlim : h.NoLimit) (hg : h.Ns mainGlobals mg) (hb : ∃ mb, h.Ns builtinsNs mb ∧ ∀ x : Str, x ≠ "__name__" → mb x = bootBuiltins x) (hx : h.get? x = some (excO C t0)) (nX : K.lookup x = none) (hroom : A.depth < recursionLimit)
    (hq : ∀ h' tk dx t1, zabd h h' x C dx t1 f v f2 v2 → R (.ok (.ret .none)) ⟨h', g, d, tk, os⟩) :
    codeAny (model prog w) A (.call (.ref fI) ⟨[.ref x, v, v2], []⟩) R ⟨h, g, d, t, os⟩ := by
  obtain ⟨oc, od, qual, doc, pm, kV, an, cda, cc, ct, osl, pa, body, sco, msg, j, q1, q2, q3, q4, q5, q6, q7, q8, q9, q10, q11, q12, q13, q14, ho, hcd, rfl, hk, hco, hgen, hs1, hs2, hs3, hs4, hs5, hcell, ⟨ar, har, ean⟩, hyd, hys, hyd2, hys2, hyy, ⟨ccl, cdd, vs, ccs, file, tf, hcode, hvs, hfile⟩, ⟨cl, cld, csl, hcc⟩, ⟨pl, hev⟩, hsm, hbind⟩ := T.fn
  obtain ⟨mb, hbn, hbb⟩ := hb
  obtain ⟨cd, hC, hdd⟩ := any_some T.hd
  refine ks_codeAny_call_defAt (fd := ksFn "__init__" qual pa _ sco .none kV doc pm an (.ref cda) ct cc) (binds := [("self", .ref x), (y, v), (y2, v2)]) hroom (X _ _ ho) rfl hlim (codeRec_of X hcd) rfl (hbind _ _ _ _) hcell ?_ (fun h₁ hn k => ?_) hco hgen hk
  · intro z hz
    simp only [List.mem_cons, List.not_mem_nil, or_false] at hz
    rcases hz with rfl | rfl | rfl
    · exact hs3
    · exact hs4
    · exact hs5
  have X₁ : K.In h₁ := X.keeps k
  have hx₁ := k _ _ hx
  obtain ⟨oD, hD1, hD2⟩ := z9t X₁ hC
  show _root_.PySem.wpAt (model prog w) (A.deeper (ksEnv qual sco h.objs.size fI (.ref cda) cc)) (.func _ (ksEnv qual sco h.objs.size fI (.ref cda) cc)) (execs _ (ksEnv qual sco h.objs.size fI (.ref cda) cc)) _ _ ⟨h₁, g, d, t + 3, os⟩
  obtain ⟨hin, hsw1, hsw2, hsw3, hst, hcon⟩ := hsm h.objs.size
  refine ks_wpAt_execs_cons (ks_wpAt_Expr_any (ks_wpAt_MethodCall (pl := pl) ?_ (hev _)) hin hsw1)
  · refine ks_wpAt_super_base (env := ksEnv qual sco h.objs.size fI (.ref cda) cc) hs1 hs2 rfl rfl (X₁ _ _ ho) rfl har rfl (X₁ _ _ hcode) rfl hvs hfile T.top ?_
    refine ks_loadName_global hk hs1 (loadGlobal_builtin (env := ksEnv qual sco h.objs.size fI (.ref cda) cc) (hg.keeps k) T.nsup (hbn.keeps k) ((hbb _ (by decide +kernel)).trans (by first | rfl | decide +kernel)) ⟨rfl, ?_⟩)
    refine wpAny_loadName_free hk hs2 rfl ⟨_, X₁ _ _ hcc, rfl⟩ ?_
    rw [ean]
    refine wpAny_loadName_local hk hs3 hn (v := .ref x) (by show List.lookup ("self" : Str) [(y2, v2), (y, v), ("self", Value.ref x)] = _; rw [List.lookup, show (("self" : Str) == y2) = false from beq_eq_false_iff_ne.mpr (Ne.symm hys2), List.lookup, show (("self" : Str) == y) = false from beq_eq_false_iff_ne.mpr (Ne.symm hys)]; rfl) ?_
    refine ks_wpAny_isType_cls hD1 hD2 ⟨rfl, ?_⟩
    refine ks_wpAny_call_super hD1 hD2 hx₁ rfl (fun c e => (by cases e)) (looks_mroIn X₁ T.self) (fun h₂ hso k₂ => ?_)
    have X₂ : K.In h₂ := X₁.keeps k₂
    have I₂ : InstAt h₂ x (excO C t0) C none := ⟨k₂ _ _ hx₁, rfl, rfl, trivial⟩
    have hxC : x ≠ C := ks_ne X₂ I₂ hC
    have hf : alongIn K "__init__" ((cd.mro.dropWhile (· != .ref C)).drop 1) = some (some (.builtin "Exception.__init__")) := by
      have := T.sup
      unfold ks_superIn at this
      rw [hC] at this
      exact this
    refine ESX.getMethod_super hso (looks_opaque X₂ T.third) (l₀ := cd.mro) ?_ rfl X₂ hf hxC rfl ?_ ?_
    · exact fun A Q E s kk q => wpAny_bind ((looks_clsIn X₂ hC) A _ E s kk (wpAny_pure q))
    · exact I₂.type.andThen (looks_subIn X₂ T.exE)
    · have hx₂ := k₂ _ _ hx₁
      have kp : ∀ b o, h₂.get? b = some o → (h₂.push (ESX.bw x)).get? b = some o := fun b o e => Heap.get?_push_of_some _ e
      have hu : (h₂.push (ESX.bw x)).get? h₂.objs.size = some (ESX.bw x) := Heap.get?_push_at rfl rfl
      obtain ⟨nm, N, qn, bs, bm, hdct, sn, sub, ab, col, dd, k0, k1, k3, k5, k6, hCo, _⟩ := excInit_of X₂ T.ini
      refine ESX.callWith_bound (x := x) ?_ (hst.trans rfl) rfl
      rw [hst]
      refine Calls.spliced_cons ?_
      show wpAny (model prog w) _ (eval (.Constant (.str msg) j q4) _) _ _ _
      refine hcon _ _ _ _ _ fun s₃ tk₃ e1 e2 e3 e4 => ?_
      obtain ⟨h₃, g₃, d₃, t₃, os₃⟩ := s₃
      dsimp only at e1 e2 e3 e4
      subst e1 e2 e3 e4
      refine Calls.spliced_nil ⟨hu, ?_⟩
      refine ESX.call_bw (kp _ _ hCo) (kp _ _ hx₂) hu (by rw [sizeLine_eq]; exact (by decide : 1 ≤ 16777216)) fun h₄ t1 k₄ hx₄ => ?_
      have old₁ : ∀ b o, b ≠ x → h₁.get? b = some o → h₄.get? b = some o := fun b o hb e => k₄ b o hb (kp b o (k₂ b o e))
      have old : ∀ b o, b ≠ x → h.get? b = some o → h₄.get? b = some o := fun b o hb e => old₁ b o hb (k b o e)
      have hxL : h.objs.size ≠ x := Nat.ne_of_gt (Heap.lt_size hx)
      have X₄ : K.In h₄ := fun a o e => old a o (fun z => by rw [z, nX] at e; cases e) (X a o e)
      dsimp only
      have hn₄ : h₄.Ns h.objs.size (fun z => List.lookup z ([(("self" : Str), Value.ref x), (y, v), (y2, v2)].reverse)) := by
        obtain ⟨oL, es, ep, hL, r⟩ := hn
        exact ⟨oL, es, ep, old₁ _ _ hxL hL, r⟩
      refine ks_wpAt_execs_cons (wpAt_of_wpAny (plainObj_wpAny_Assign_Attribute ?_ hsw2))
      refine ESX.ldL (v := v) hn₄ (by show List.lookup y [(y2, v2), (y, v), ("self", Value.ref x)] = _; rw [List.lookup, show (y == y2) = false from beq_eq_false_iff_ne.mpr (Ne.symm hyy), List.lookup, show (y == y) = true from beq_self_eq_true y]) ?_ hk hs4 hyd
      refine ESX.ldL (v := .ref x) hn₄ (by show List.lookup ("self" : Str) [(y2, v2), (y, v), ("self", Value.ref x)] = _; rw [List.lookup, show (("self" : Str) == y2) = false from beq_eq_false_iff_ne.mpr (Ne.symm hys2), List.lookup, show (("self" : Str) == y) = false from beq_eq_false_iff_ne.mpr (Ne.symm hys)]; rfl) ?_ hk hs3 (by decide)
      refine set_plain X₄ (ox := excO C t1) (od := none) ⟨hx₄, rfl, rfl, trivial⟩ T.sa ?_
      refine zaaf X₄ hx₄ T.ov T.nof T.hd fun h₅ tk₅ dx k₅ dn dne hx₅ hn₅ => ?_
      have X₅ : K.In h₅ := fun a o e => k₅ a o (fun z => by rw [z, nX] at e; cases e) (X₄ a o e)
      have hn₆ : h₅.Ns h.objs.size (fun z => List.lookup z ([(("self" : Str), Value.ref x), (y, v), (y2, v2)].reverse)) := by
        obtain ⟨oL, es, ep, hL, r⟩ := hn₄
        exact ⟨oL, es, ep, k₅ _ _ hxL hL, r⟩
      dsimp only
      refine ks_wpAt_execs_cons (wpAt_of_wpAny (plainObj_wpAny_Assign_Attribute ?_ hsw3))
      refine ESX.ldL (v := v2) hn₆ (by show List.lookup y2 [(y2, v2), (y, v), ("self", Value.ref x)] = _; rw [List.lookup, show (y2 == y2) = true from beq_self_eq_true y2]) ?_ hk hs5 hyd2
      refine ESX.ldL (v := .ref x) hn₆ (by show List.lookup ("self" : Str) [(y2, v2), (y, v), ("self", Value.ref x)] = _; rw [List.lookup, show (("self" : Str) == y2) = false from beq_eq_false_iff_ne.mpr (Ne.symm hys2), List.lookup, show (("self" : Str) == y) = false from beq_eq_false_iff_ne.mpr (Ne.symm hys)]; rfl) ?_ hk hs3 (by decide)
      obtain ⟨oD', _, _, hoD', _, _⟩ := hn₅.count (Within.cons f v Within.nil)
      refine set_plain X₅ (ox := { cls := .ref C, dict := some dx, data := .fields #[.ref t1, .none, .none, .none, .bool false, .none] }) (od := some oD') ⟨hx₅, rfl, rfl, hoD'⟩ T.sa ?_
      refine zaao X₅ hx₅ hn₅ (Within.cons f v Within.nil) (show 1 ≤ 1000 by decide) T.ov T.nof2 T.hd fun h₆ tk₆ k₆ hn₇ => ?_
      dsimp only
      refine wpAt_of_wpAny (wpAny_execs_nil ?_)
      have dlt : h.objs.size ≤ dx := Nat.le_of_lt (Nat.lt_of_lt_of_le hn₄.lt dn)
      refine hq h₆ tk₆ dx t1 ⟨fun b o hb e => k₆ b o (Nat.ne_of_lt (Nat.lt_of_lt_of_le (Heap.lt_size e) dlt)) (k₅ b o hb (old b o hb e)), k₆ _ _ (Ne.symm dne) hx₅, dlt, dne, hn₇⟩
/-- a made one -/
structure zabg (h h' : Heap) (e C dx : Addr) (f : Str) (v : Value) (f2 : Str) (v2 : Value) : Prop where
  keep : ∀ b o, h.get? b = some o → h'.get? b = some o
  new : h.objs.size ≤ e
  obj : ∃ oe vs, h'.get? e = some oe ∧ oe.cls = .ref C ∧ oe.dict = some dx ∧ oe.data = .fields vs ∧ vs[1]? = some .none
  dbig : h.objs.size ≤ dx
  dne : dx ≠ e
  ns : h'.Ns1 dx (fun z => if z = f2 then some v2 else if z = f then some v else none)
theorem z40 (v v2 : Value) : [v, v2].length ≤ sizeLine := by
  rw [sizeLine_eq]
  exact (by decide : 2 ≤ 16777216)
theorem z3y (T : z3q prog K mg C fI y f y2 f2) {v v2 : Value} {h : Heap} {g : Array GenState} {d : Drawn} {t : Nat} {os : OsState} (X : K.In h) (hlim : h.NoLimit) (hg : h.Ns mainGlobals mg) (hb : ∃ mb, h.Ns builtinsNs mb ∧ ∀ x : Str, x ≠ "__name__" → mb x = bootBuiltins x) (hroom : A.depth + 1 < recursionLimit)
    (hq : ∀ h' tk e dx, zabg h h' e C dx f v f2 v2 → R (.ok (.ret (.ref e))) ⟨h', g, d, tk, os⟩) :
    codeAny (model prog w) A (.call (.ref C) ⟨[v, v2], []⟩) R ⟨h, g, d, t, os⟩ := by
  obtain ⟨nm, N, qn, bs, bm, hdct, sn, sub, ab, col, dd, k0, k1, k3, k5, k6, hCo, hbm⟩ := excInit_of X T.ini
  have k : ∀ b o, h.get? b = some o → ((h.push (kdv_tup [v, v2])).push (excO C h.objs.size)).get? b = some o := fun b o e => Heap.get?_push_of_some _ (Heap.get?_push_of_some _ e)
  have hget : ((h.push (kdv_tup [v, v2])).push (excO C h.objs.size)).get? (h.objs.size + 1) = some (excO C h.objs.size) := by heap_get
  have nX : K.lookup (h.objs.size + 1) = none := by
    cases e : K.lookup (h.objs.size + 1) with
    | none => rfl
    | some o =>
      have z := Heap.lt_size (X _ _ e)
      exact absurd (Nat.lt_of_succ_lt z) (Nat.lt_irrefl _)
  have hft : typeIn K (.ref fI) = some (.type "function") := by
    have := T.isf
    unfold isFn at this
    exact beq_iff_eq.mp this
  obtain ⟨mb, hbn, hbb⟩ := hb
  refine HandSPX.call_own PySem.F.excBase_Exception hbm hCo (looks_findIn X T.iC) (fun self => bind_fn X self hft) (z40 v v2) ?_
  refine z24 T (X.keeps k) (hlim.keeps k) (hg.keeps k) ⟨mb, hbn.keeps k, hbb⟩ hget nX hroom fun h' tk' dx t1 M => ?_
  have old : ∀ b o, h.get? b = some o → h'.get? b = some o := fun b o e => M.keep b o (Nat.ne_of_lt (Nat.lt_succ_of_lt (Heap.lt_size e))) (k b o e)
  have z : h.objs.size + 1 + 1 ≤ dx := by
    have := M.dbig
    first
      | (simpa only [Heap.size_push] using this)
      | exact this
  exact ⟨rfl, hq h' tk' (h.objs.size + 1) dx ⟨old, Nat.le_succ _, ⟨_, _, M.obj, rfl, rfl, rfl, rfl⟩, Nat.le_trans (Nat.le_trans (Nat.le_succ _) (Nat.le_succ _)) z, M.dne, M.ns⟩⟩
end
end DX
namespace DL
open PySem PySem.Spec PyProof.Rows L2
theorem z5k {v u : V} {v' u' : Value} (r : RelV v v') (r2 : RelV u u') (f f2 z : Str) (n : f2 ≠ f) : RelO (List.lookup z [(f, v), (f2, u)]) (if z = f2 then some u' else if z = f then some v' else none) := by
  by_cases h2 : z = f2
  · subst h2
    rw [if_pos rfl]
    have q : List.lookup z [(f, v), (z, u)] = some u := by simp [List.lookup, show (z == f) = false by simpa using n]
    rw [q]
    exact r2
  · rw [if_neg h2]
    by_cases h : z = f
    · subst h
      rw [if_pos rfl]
      have q : List.lookup z [(z, v), (f2, u)] = some v := by simp [List.lookup]
      rw [q]
      exact r
    · rw [if_neg h]
      have q1 : (z == f) = false := by simpa using h
      have q3 : (z == f2) = false := by simpa using h2
      have q2 : List.lookup z [(f, v), (f2, u)] = none := by simp [List.lookup, q1, q3]
      rw [q2]
      trivial
section
variable {X : Cx} {C fI : Addr} {y f y2 f2 : Str}
/-- C(e, e2), an exception -/
def zaa8 (C : Addr) (f f2 : Str) (ta : TA) : L2.St → Hp → XK → Prop := fun σ H Q => ta σ H fun vs H1 => ∃ v u, vs = [v, u] ∧ ∀ d, H1 d = none → Q (.ref C) (some d) (upd H1 d (.xd [(f, v), (f2, u)]))
theorem z9e {x : Str} {a a2 : Expr} {ta : TA} {p pos : Pos} {k : Nat} (T : DX.z3q X.prog X.K X.mg C fI y f y2 f2) (hm : X.mg x = some (.ref C)) (hr : Room k X.A) (ha : PA X [a, a2] ta) (hg : Gl X x := by rfl)
    (he : starEach (a :: [a2]) X.env = (false, eval a X.env) :: starEach [a2] X.env := by rfl) (hpl : (backTo pos (starEach [a2] X.env)).any (·.1) = false := by rfl) (hdb : (x == ("__debug__" : Str)) = false := by decide) :
    PMk X (.Call (.Name x p) [a, a2] [] pos) (zaa8 C f f2 ta) := by
  intro pins s σ H Q I h
  refine wpAny_Call_Name_kw (ld_glob I hg hm ?_ hdb)
  refine PySem.W.callWith_K (h₀ := X.base) I.ok.mod.kin T.kC (thn (ha.run pos pins s σ H _ I h) fun us s1 hh => ?_) he hpl
  obtain ⟨vs, H1, I1, r1, v, u, ev, q1⟩ := hh
  subst ev
  refine ⟨I1.kIn, ?_⟩
  obtain ⟨v', u', rfl, rv, ru⟩ := vals2 r1
  · show wpAny _ _ (call (.ref C) [v', u']) _ _ _
    have hlim := I1.nolimit
    have hbk := I1.bk
    obtain ⟨mb, hb1, hb2⟩ := I1.mod.blt
    obtain ⟨hp, g, dr, tk, os⟩ := s1
    refine wpAny_call (DX.z3y T I1.kIn hlim (I1.mod.glob.keeps hbk) ⟨mb, hb1.keeps hbk, hb2⟩ (by have := hr.dp; omega) fun h' tk' e d M => ?_)
    show MkP X pins σ Q (.ref e) ⟨h', g, dr, tk', os⟩
    obtain ⟨oe, fv, hoe, hc, hd, hdat, h1⟩ := M.obj
    have hns := M.ns
    obtain ⟨G', g1, g2⟩ := restrict h' fun b => decide (b ≠ e)
    have gk : ∀ b, b ≠ e → G'.get? b = h'.get? b := fun b hb => g1 b (decide_eq_true hb)
    have ge : G'.get? e = none := g2 e (by simp)
    have old : ∀ b o, hp.get? b = some o → G'.get? b = some o := fun b o q => (gk b (Nat.ne_of_lt (Nat.lt_of_lt_of_le (Heap.lt_size q) M.new))).trans (M.keep b o q)
    have ob : ObjOk X.prog X.w (upd H1 d (.xd [(f, v), (f2, u)])) G' d (.xd [(f, v), (f2, u)]) :=
      ⟨_, hns.at (fun o q => (gk d M.dne).trans q), fun z => z5k rv ru f f2 z T.ff⟩
    have J : Inv X pins σ (upd H1 d (.xd [(f, v), (f2, u)])) ⟨G', g, dr, tk', os⟩ := I1.laid (t' := tk') old M.dbig ob
    refine ⟨e, oe, fv, ⟨G', g, dr, tk', os⟩, _, .ref C, some d, rfl, J, fun b o q => ?_, ge, hoe, ⟨hc, hd⟩, hdat, h1, ?_, rfl, I1.bare, raises_own T.exB T.tyC, q1 d (I1.hok.fresh M.dbig)⟩
    · by_cases hb : b = e
      · have q' : G'.get? b = some o := q
        rw [hb, ge] at q'; cases q'
      · exact (gk b hb).symm.trans q
    · rw [upd_ne (Ne.symm M.dne)]
      exact I1.hok.fresh M.new
/-- raise C(e, e2) -/
def zm2 (C : Addr) (f f2 : Str) (U : DXK) (T : DTA) : DTS := fun _ η G => T η G fun ds G1 => match ds with
  | [y, z] => U ⟨C, [(f, y), (f2, z)]⟩ η G1
  | _ => False
theorem zve [Bs] {x : Str} {U : DXK} {a a2 : Expr} {T : DTA} {p pos pos2 : Pos} {k : Nat} (hc : X.calm = true) (t : DX.z3q X.prog X.K X.mg C fI y f y2 f2) (hm : X.mg x = some (.ref C)) (hr : Room k X.A) (tk : Takes X (ztu X.ml U)) (ha : PAD X [a, a2] T) (hg : Gl X x := by rfl)
    (he : starEach (a :: [a2]) X.env = (false, eval a X.env) :: starEach [a2] X.env := by rfl) (hpl : (backTo pos (starEach [a2] X.env)).any (·.1) = false := by rfl) (hdb : (x == ("__debug__" : Str)) = false := by decide) :
    PSD X (.Raise (some (.Call (.Name x p) [a, a2] [] pos)) none pos2) (zm2 C f f2 U T) :=
  PS.impI (ps_raise hc tk (z9e t hm hr ha hg he hpl hdb)) fun _ _ σ H E _ ⟨η, G, F, sr, hr, tt, er⟩ => ⟨η, G, _, sr, hr, tt, fun ds G1 vs H1 p x1 r1 q1 => by
    split at p
    · rename_i y' z'
      obtain ⟨v, r, rfl, q2, q3⟩ := q1.uncons
      obtain ⟨u, r', rfl, q4, q5⟩ := q3.uncons
      rw [q5.nil_of]
      refine ⟨v, u, rfl, fun d hd => ?_⟩
      have x2 : Ext H1 G1 (upd H1 d (.xd [(f, v), (f2, u)])) G1 := .laid hd
      refine ⟨⟨C, [(f, y'), (f2, z')]⟩, η, G1, (sr.ext hr x1).ext r1 x2, r1.laid hd, ⟨rfl, d, [(f, v), (f2, u)], rfl, r1.free hd, upd_same, rfl, .cons (q2.ext r1 x2) (.cons (q4.ext r1 x2) .nil)⟩, p⟩
    · exact p.elim⟩
end
end DL
section
open PySem PySem.Spec PyProof.Rows L2 DL
local macro_rules | `(tactic| simp_arith only [$xs,*]) => `(tactic| simp only [$xs,*, dSeq, dIfS, zan, dOp, zf, dC, dRet, zha, zd, dNil, dTup, zck, dAsg, zk8, zn, zib, dM, dM0, dIf, dAnd, dOr, dNot, zk1, dOrV, zn9, zla, dFz, zo9, zuq, znu, ztx, dCB, zf6, zag, zgc, zp3, dNeg, dAug, zq0, dFrz, dPar, zhs, zqf, zkw, dYes, zkn, i2, d1, d2, d3, zav, List.map_cons, List.map_nil, List.length_cons, List.length_nil, List.cons_append, List.nil_append, List.append_nil, List.getElem?_cons_zero, List.getElem?_cons_succ, List.getElem?_nil, List.replicate, List.set_cons_succ, List.set_cons_zero, Nat.reduceAdd, Nat.reduceSub, Nat.reduceLeDiff, zkj, zkf, znv, znr, znm, znp, zhw, zf1, true_and, and_true, Bool.not_eq_true, Bool.not_true, Bool.not_false, if_true, if_false, Bool.false_eq_true, ite_true, ite_false, reduceIte, reduceCtorEq, decide_eq_true_eq, decide_eq_false_iff_not, Option.isSome_some, Option.isSome_none, Bool.true_bne, Bool.false_bne])
local macro_rules | `(tactic| simp_arith only [$xs,*] $l:location) => `(tactic| simp only [$xs,*, dSeq, dIfS, zan, dOp, zf, dC, dRet, zha, zd, dNil, dTup, zck, dAsg, zk8, zn, zib, dM, dM0, dIf, dAnd, dOr, dNot, zk1, dOrV, zn9, zla, dFz, zo9, zuq, znu, ztx, dCB, zf6, zag, zgc, zp3, dNeg, dAug, zq0, dFrz, dPar, zhs, zqf, zkw, dYes, zkn, i2, d1, d2, d3, zav, List.map_cons, List.map_nil, List.length_cons, List.length_nil, List.cons_append, List.nil_append, List.append_nil, List.getElem?_cons_zero, List.getElem?_cons_succ, List.getElem?_nil, List.replicate, List.set_cons_succ, List.set_cons_zero, Nat.reduceAdd, Nat.reduceSub, Nat.reduceLeDiff, zkj, zkf, znv, znr, znm, znp, zhw, zf1, true_and, and_true, Bool.not_eq_true, Bool.not_true, Bool.not_false, if_true, if_false, Bool.false_eq_true, ite_true, ite_false, reduceIte, reduceCtorEq, decide_eq_true_eq, decide_eq_false_iff_not, Option.isSome_some, Option.isSome_none, Bool.true_bne, Bool.false_bne] $l)
namespace M
open PySem PySem.Spec PyProof.Rows L2 DL
class CA where
  (Ground Camera Sky BadText Deed Craft : Addr)
variable [CA]
abbrev isT : Value → Value → Option Bool := znj [CA.Sky, CA.Deed, CA.Ground]
theorem zw6 {ds : List D} {G : DHp} {Q : DVK} : dLen [.nd .tup ds] G Q = Q (.int ds.length) G := rfl
theorem len3 {a b c : D} {G : DHp} {Q : DVK} : dLen [.nd .tup [a, b, c]] G Q = Q (.int 3) G := rfl
theorem len4 {a b c d : D} {G : DHp} {Q : DVK} : dLen [.nd .tup [a, b, c, d]] G Q = Q (.int 4) G := rfl
/-- what is no whole number -/
def z93 (t : D) : Prop := t = .non ∨ (∃ b, t = .bl b) ∨ (∃ x, t = .str x) ∨ (∃ ds, t = .nd .tup ds) ∨ ∃ ds, t = .nd .lst ds
def zy : DRn := d3 fun t l h G Q => (∃ i a b : Int, t = .int i ∧ l = .int a ∧ h = .int b ∧ Q (.bl (decide (a ≤ i ∧ i ≤ b))) G) ∨ (z93 t ∧ Q (.bl false) G)
theorem zzj {cs : List Addr} {G : DHp} {Q : DVK} : (dIsi (znj cs)) [.non, .ty "int"] G Q ↔ Q (.bl false) G := Iff.rfl
theorem z1y {cs : List Addr} {b : Bool} {G : DHp} {Q : DVK} : (dIsi (znj cs)) [.bl b, .ty "int"] G Q ↔ Q (.bl true) G := Iff.rfl
theorem zzt {cs : List Addr} {b : Bool} {G : DHp} {Q : DVK} : (dIsi (znj cs)) [.bl b, .ty "bool"] G Q ↔ Q (.bl true) G := Iff.rfl
theorem zzh {cs : List Addr} {x : Str} {G : DHp} {Q : DVK} : (dIsi (znj cs)) [.str x, .ty "int"] G Q ↔ Q (.bl false) G := Iff.rfl
theorem zy4 {cs : List Addr} {ds : List D} {G : DHp} {Q : DVK} : (dIsi (znj cs)) [.nd .tup ds, .ty "int"] G Q ↔ Q (.bl false) G := Iff.rfl
theorem zzm {cs : List Addr} {ds : List D} {G : DHp} {Q : DVK} : (dIsi (znj cs)) [.nd .lst ds, .ty "int"] G Q ↔ Q (.bl false) G := Iff.rfl
abbrev zft : List Str := ["thing", "low", "high"]
def zgk : DTS :=
    (dRet (zk1 (dCB (dIsi isT) (zd (zf 0) (zd (dC (.ty "int")) dNil))) (zk1 (zn9 (dCB (dIsi isT) (zd (zf 0) (zd (dC (.ty "bool")) dNil)))) (zla dLe dLe (zf 1) (zf 0) (zf 2)))))
theorem zya : ∀ ds G Q, zy ds G Q → ds.length = 3 := fun ds G Q h => by
  match ds, h with
  | [_, _, _], _ => rfl
theorem zxq : ∀ ds G Q, zy ds G Q → zgk { nx := fun _ G' => Q .non G', rt := Q } (zav zft ds) G := fun ds G Q h => by
  match ds, h with
  | [_, _, _], .inr ⟨n, q⟩ =>
    rcases n with rfl | ⟨b, rfl⟩ | ⟨x, rfl⟩ | ⟨ds, rfl⟩ | ⟨ds, rfl⟩
    · simp_arith only [zgk, zft, zzj]; exact q
    · simp_arith only [zgk, zft, z1y, zzt]; exact q
    · simp_arith only [zgk, zft, zzh]; exact q
    · simp_arith only [zgk, zft, zy4]; exact q
    · simp_arith only [zgk, zft, zzm]; exact q
  | [_, _, _], .inl ⟨i, a, b, rfl, rfl, rfl, q⟩ =>
    simp_arith only [zgk, zft, zy7, zxy]
    by_cases h1 : a ≤ i
    · rw [if_pos h1]
      simpa [h1] using q
    · rw [if_neg h1]
      simpa [h1] using q
def okPt (a b : Int) (p : Int × Int × Int) : Prop := (a ≤ p.1 ∧ p.1 ≤ b) ∧ (a ≤ p.2.1 ∧ p.2.1 ≤ b) ∧ 1 ≤ p.2.2 ∧ p.2.2 ≤ 99
instance (a b : Int) (p : Int × Int × Int) : Decidable (okPt a b p) := by unfold okPt; infer_instance
/-- what is no row of three -/
def zabl (t : D) : Prop := (∃ ds, t = .nd .lst ds) ∨ ∃ ds : List D, t = .nd .tup ds ∧ ds.length ≠ 3
theorem zzr {cs : List Addr} {ds : List D} {G : DHp} {Q : DVK} : (dIsi (znj cs)) [.nd .lst ds, .ty "tuple"] G Q ↔ Q (.bl false) G := Iff.rfl
def zf7 : DRn := d3 fun t l h G Q => (∃ (p : Int × Int × Int) (a b : Int), t = e3 p ∧ l = .int a ∧ h = .int b ∧ Q (.bl (decide (okPt a b p))) G) ∨ (zabl t ∧ Q (.bl false) G)
abbrev zix : List Str := ["thing", "low", "high"]
def zk3 : DTS :=
    (dSeq (dIfS (dOr (dNot (zan (dCB (dIsi isT) (zd (zf 0) (zd (dC (.ty "tuple")) dNil))))) (zan (dOp dNe (dCB dLen (zd (zf 0) dNil)) (dC (.int 3)))))
    (dRet (dC (.bl false)))
    zck)
    (dRet (zk1 (dCB zy (zd (dOp dIx (zf 0) (dC (.int 0))) (zd (zf 1) (zd (zf 2) dNil)))) (zk1 (dCB zy (zd (dOp dIx (zf 0) (dC (.int 1))) (zd (zf 1) (zd (zf 2) dNil)))) (dCB zy (zd (dOp dIx (zf 0) (dC (.int 2))) (zd (dC (.int 1)) (zd (dC (.int 99)) dNil))))))))
theorem zx6 : ∀ ds G Q, zf7 ds G Q → ds.length = 3 := fun ds G Q h => by
  match ds, h with
  | [_, _, _], _ => rfl
theorem zys : ∀ ds G Q, zf7 ds G Q → zk3 { nx := fun _ G' => Q .non G', rt := Q } (zav zix ds) G := fun ds G Q h => by
  match ds, h with
  | [_, _, _], .inr ⟨.inl ⟨ds, rfl⟩, q⟩ =>
    simp_arith only [zk3, zix, zzr]
    exact q
  | [_, _, _], .inr ⟨.inr ⟨ds, rfl, h⟩, q⟩ =>
    simp_arith only [zk3, zix, zfk]
    rw [zw6]
    simp_arith only [true_and]
    rw [if_pos (by simp; omega)]
    exact q
  | [_, _, _], .inl ⟨p, a, b, rfl, rfl, rfl, q⟩ =>
    simp_arith only [zk3, zix, e3, zfk]
    rw [len3]
    simp_arith only [true_and]
    rw [if_neg (by decide)]
    refine ztl (by decide) rfl (.inl ⟨_, _, _, rfl, rfl, rfl, ?_⟩)
    dsimp only
    by_cases h1 : a ≤ p.1 ∧ p.1 ≤ b
    · rw [decide_eq_true h1, if_pos rfl]
      refine ztl (by decide) rfl (.inl ⟨_, _, _, rfl, rfl, rfl, ?_⟩)
      dsimp only
      by_cases h2 : a ≤ p.2.1 ∧ p.2.1 ≤ b
      · rw [decide_eq_true h2, if_pos rfl]
        refine ztl (by decide) rfl (.inl ⟨_, _, _, rfl, rfl, rfl, ?_⟩)
        have e : decide (okPt a b p) = decide (1 ≤ p.2.2 ∧ p.2.2 ≤ 99) := by rw [Bool.eq_iff_iff]; simp [okPt, h1, h2]
        rw [e] at q
        exact q
      · rw [decide_eq_false h2, if_neg Bool.false_ne_true]
        have e : decide (okPt a b p) = false := by rw [decide_eq_false_iff_not]; exact fun z => h2 z.2.1
        rw [e] at q
        exact q
    · rw [decide_eq_false h1, if_neg Bool.false_ne_true]
      have e : decide (okPt a b p) = false := by rw [decide_eq_false_iff_not]; exact fun z => h1 z.1
      rw [e] at q
      exact q
/-- a quarter turn, or more -/
def rot (x y t : Int) : Int × Int := if t = 0 then (x, y) else if t = 1 then (0 - y, x) else if t = 2 then (0 - x, 0 - y) else (y, 0 - x)
def zf2 : DRn := d3 fun x y t G Q => ∃ i j k : Int, x = .int i ∧ y = .int j ∧ t = .int k ∧ Q (e2 (rot i j k)) G
abbrev zrj : List Str := ["x", "y", "turn"]
def zv3 : DTS :=
    (dSeq (dIfS (zan (dOp dEq (zf 2) (dC (.int 0))))
    (dRet (dTup (zd (zf 0) (zd (zf 1) dNil))))
    zck)
    (dSeq (dIfS (zan (dOp dEq (zf 2) (dC (.int 1))))
    (dRet (dTup (zd (dOp dSub (dC (.int 0)) (zf 1)) (zd (zf 0) dNil))))
    zck)
    (dRet (dIf (zan (dOp dEq (zf 2) (dC (.int 2)))) (dTup (zd (dOp dSub (dC (.int 0)) (zf 0)) (zd (dOp dSub (dC (.int 0)) (zf 1)) dNil))) (dTup (zd (zf 1) (zd (dOp dSub (dC (.int 0)) (zf 0)) dNil)))))))
theorem z1w : ∀ ds G Q, zf2 ds G Q → ds.length = 3 := fun ds G Q h => by
  match ds, h with
  | [_, _, _], _ => rfl
theorem z1t : ∀ ds G Q, zf2 ds G Q → zv3 { nx := fun _ G' => Q .non G', rt := Q } (zav zrj ds) G := fun ds G Q h => by
  match ds, h with
  | [_, _, _], ⟨i, j, k, rfl, rfl, rfl, q⟩ =>
    unfold rot at q
    simp_arith only [zv3, zrj]
    by_cases h0 : k = 0
    · rw [if_pos h0] at q ⊢
      exact q
    · rw [if_neg h0] at q ⊢
      by_cases h1 : k = 1
      · rw [if_pos h1] at q ⊢
        exact q
      · rw [if_neg h1] at q ⊢
        by_cases h2 : k = 2
        · rw [if_pos h2] at q ⊢
          exact q
        · rw [if_neg h2] at q ⊢
          exact q
structure Cam where
  w : Int
  h : Int
  er : Int
  fa : Int
  lo : Int
structure Sk where
  cs : List (Int × Int × Int)
  cam : Cam
  tu : List Int
  ar : Int × Int × Int × Int
def gD (cs : List (Int × Int × Int)) : D := .nd (.ins CA.Ground ["craters"]) [eT e3 cs]
def cD (c : Cam) : D := .nd (.ins CA.Camera ["width", "height", "error", "false", "lost"]) [.int c.w, .int c.h, .int c.er, .int c.fa, .int c.lo]
def e4 (a : Int × Int × Int × Int) : D := .nd .tup [.int a.1, .int a.2.1, .int a.2.2.1, .int a.2.2.2]
def sD (s : Sk) : D := .nd (.ins CA.Sky ["ground", "camera", "turns", "area"]) [gD s.cs, cD s.cam, eT .int s.tu, e4 s.ar]
def z7f (c : Cam) : Prop := (1 ≤ c.w ∧ c.w ≤ 1000) ∧ (1 ≤ c.h ∧ c.h ≤ 1000) ∧ (0 ≤ c.er ∧ c.er ≤ 100) ∧ (0 ≤ c.fa ∧ c.fa ≤ 100) ∧ (0 ≤ c.lo ∧ c.lo ≤ 100)
section
variable {T : DTE} {η : DSt} {G : DHp} {Q : DVK}
theorem zlx {C : Addr} {n : Str} {ns : List Str} {ds : List D} : fldD C n (.nd (.ins C ns) ds) G = (ns.zip ds).lookup n := if_pos rfl
theorem zi0 {cs : List (Int × Int × Int)} : fldD CA.Ground "craters" (gD cs) G = some (eT e3 cs) := by unfold gD; rw [zlx]; rfl
theorem zxf {s : Sk} : fldD CA.Sky "ground" (sD s) G = some (gD s.cs) := by unfold sD; rw [zlx]; rfl
theorem z0x {s : Sk} : fldD CA.Sky "turns" (sD s) G = some (eT .int s.tu) := by unfold sD; rw [zlx]; rfl
theorem zzb {s : Sk} : fldD CA.Sky "area" (sD s) G = some (e4 s.ar) := by unfold sD; rw [zlx]; rfl
end
def z4 : DRn := d2 fun s c G Q => ∃ (x : Addr) (cs : List (Int × Int × Int)), s = .ref x ∧ c = eL e3 cs ∧ G x = some (.ins CA.Ground []) ∧ cs.length ≤ 100 ∧ (∀ p ∈ cs, okPt (0 - 1000000) 1000000 p) ∧
  Q .non (up G x (.ins CA.Ground [("craters", eT e3 (srtT e3 cs))]))
abbrev zfo : List Str := ["self", "craters", "number", "crater"]
def zhp : DTS :=
    (dSeq (dFor (ztk (zd (zf 1) dNil)) (zf6 (zag (zn 2) (zag (zn 3) zgc)) 2)
    (dIfS (dOr (zan (dOp dGe (zf 2) (dC (.int 100)))) (dNot (zan (dCB zf7 (zd (zf 3) (zd (dOp dSub (dC (.int 0)) (dC (.int 1000000))) (zd (dC (.int 1000000)) dNil)))))))
    zcx
    zck))
    (zka CA.Ground "craters" (zf 0) (dCB zo1 (zd (dFz (dCB zzw (zd (zf 1) dNil))) dNil))))
theorem zod : ∀ ds G Q, z4 ds G Q → ds.length = 2 := fun ds G Q h => by
  match ds, h with
  | [_, _], _ => rfl
theorem zaac (p : Int × Int × Int) : (py (e3 p)).depth ≤ 60 := Nat.le_trans (zrl p) (by decide)
/-- a field set -/
theorem z6o {C : Addr} {n : Str} {To Tv : DTE} {F : zh5} {η : DSt} {G : DHp} {x : Addr} {y : D} {fs : List (Str × D)} (ho : ∀ R : DVK, R (.ref x) G → To η G R) (hG : G x = some (.ins C fs)) (hl : fs.length < 1000)
    (k : F.nx η (up G x (.ins C (fput n y fs)))) (hv : ∀ R : DVK, R y G → Tv η G R) : zka C n To Tv F η G := by
  refine hv _ (ho _ ?_)
  show (match G x with | some (.ins B fs) => _ | _ => False)
  rw [hG]
  exact ⟨⟨rfl, hl⟩, k⟩
theorem zoi : ∀ ds G Q, z4 ds G Q → zhp { nx := fun _ G' => Q .non G', rt := Q } (zav zfo ds) G := fun ds G Q h => by
  match ds, h with
  | [_, _], ⟨x, cs, rfl, rfl, hG, hl, hok, q⟩ =>
    simp_arith only [zhp, zfo, dFor, ztk, eL]
    refine ⟨fun i η G' => ∃ nu cr, η = [some (.ref x), some (eL e3 cs), nu, cr] ∧ G' = G, ⟨none, none, rfl, rfl⟩, fun _ _ _ _ => trivial, ?_, ?_⟩
    · rintro i d η G' hd ⟨nu, cr, rfl, rfl⟩
      obtain ⟨z, hz, rfl⟩ := zjg hd
      obtain ⟨p, hp, rfl⟩ := zcq hz
      have hi : i < cs.length := (List.getElem?_eq_some_iff.mp hp).1
      simp_arith only [zcx]
      rw [if_neg (by omega)]
      refine .inl ⟨p, _, _, rfl, rfl, rfl, ?_⟩
      rw [decide_eq_true (hok p (List.mem_of_getElem? hp))]
      simp_arith only [true_and]
      exact ⟨_, (by repeat (first | exact Le.nil | apply Le.keep | apply Le.drop)), _, _, rfl, rfl⟩
    · rintro η G' ⟨nu, cr, rfl, rfl⟩
      refine z6o (fs := []) (y := eT e3 (srtT e3 cs)) (fun R r => r) hG (by decide) q fun R r => ?_
      simp_arith only [true_and]
      refine z12 (f := e3) (xs := cs) rfl (fun _ => rfl) al3 (st3 cs) zaac fun p hp => ?_
      simp_arith only [zo, zc8 hp]
      rw [zp6 (ds := (srtT e3 cs).map e3) rfl]
      exact r
def zaw : DRn := fun ds G Q => ∃ (x : Addr) (c : Cam), ds = [.ref x, .int c.w, .int c.h, .int c.er, .int c.fa, .int c.lo] ∧ G x = some (.ins CA.Camera []) ∧ z7f c ∧
  Q .non (up G x (.ins CA.Camera [("width", .int c.w), ("height", .int c.h), ("error", .int c.er), ("false", .int c.fa), ("lost", .int c.lo)]))
abbrev zd7 : List Str := ["self", "width", "height", "error", "false", "lost", "word", "number", "low", "high"]
def zgd : DTS :=
    (dFor (zd4 (dTup (zd (dTup (zd (dC (.str "width")) (zd (zf 1) (zd (dC (.int 1)) (zd (dC (.int 1000)) dNil))))) (zd (dTup (zd (dC (.str "height")) (zd (zf 2) (zd (dC (.int 1)) (zd (dC (.int 1000)) dNil))))) (zd (dTup (zd (dC (.str "error")) (zd (zf 3) (zd (dC (.int 0)) (zd (dC (.int 100)) dNil))))) (zd (dTup (zd (dC (.str "false")) (zd (zf 4) (zd (dC (.int 0)) (zd (dC (.int 100)) dNil))))) (zd (dTup (zd (dC (.str "lost")) (zd (zf 5) (zd (dC (.int 0)) (zd (dC (.int 100)) dNil))))) dNil))))))) (zf6 (zag (zn 6) (zag (zn 7) (zag (zn 8) (zag (zn 9) zgc)))) 4)
    (dIfS (dNot (zan (dCB zy (zd (zf 7) (zd (zf 8) (zd (zf 9) dNil))))))
    zcx
    zck))
def zi8 : DTS :=
    (zka CA.Camera "width" (zf 0) (zf 1))
def zjf : DTS :=
    (zka CA.Camera "height" (zf 0) (zf 2))
def zjb : DTS :=
    (zka CA.Camera "error" (zf 0) (zf 3))
def zi7 : DTS :=
    (zka CA.Camera "false" (zf 0) (zf 4))
def zja : DTS :=
    (zka CA.Camera "lost" (zf 0) (zf 5))
def zi9 : DTS :=
    zja
def zje : DTS :=
    (dSeq zi7 zi9)
def zi6 : DTS :=
    (dSeq zjb zje)
def zjj : DTS :=
    (dSeq zjf zi6)
def zi1 : DTS :=
    (dSeq zi8 zjj)
def zkp : DTS :=
    (dSeq zgd zi1)
theorem zon : ∀ ds G Q, zaw ds G Q → ds.length = 6 := fun ds G Q ⟨x, c, e, _⟩ => by rw [e]; rfl
theorem zaad {F : zh5} {x : Addr} {c : Cam} {G : DHp} (ok : z7f c) (k : ∀ a b d e, F.nx [some (.ref x), some (.int c.w), some (.int c.h), some (.int c.er), some (.int c.fa), some (.int c.lo), a, b, d, e] G) : zgd F (zav zd7 [.ref x, .int c.w, .int c.h, .int c.er, .int c.fa, .int c.lo]) G := by
  simp_arith only [zgd, zd7, dFor, zd4]
  refine ⟨fun i η G' => ∃ a b d e, η = [some (.ref x), some (.int c.w), some (.int c.h), some (.int c.er), some (.int c.fa), some (.int c.lo), a, b, d, e] ∧ G' = G, ⟨none, none, none, none, rfl, rfl⟩, fun _ _ _ _ => trivial, ?_, ?_⟩
  · rintro i d η G' hd ⟨a, b, z, e, rfl, rfl⟩
    have hm := List.mem_of_getElem? hd
    have key : ∃ (w : Str) (n lo hi : Int), d = .nd .tup [.str w, .int n, .int lo, .int hi] ∧ lo ≤ n ∧ n ≤ hi := by
      simp only [List.mem_cons, List.not_mem_nil, or_false] at hm
      obtain ⟨o1, o2, o3, o4, o5⟩ := ok
      rcases hm with h | h | h | h | h
      · exact ⟨_, _, _, _, h, o1.1, o1.2⟩
      · exact ⟨_, _, _, _, h, o2.1, o2.2⟩
      · exact ⟨_, _, _, _, h, o3.1, o3.2⟩
      · exact ⟨_, _, _, _, h, o4.1, o4.2⟩
      · exact ⟨_, _, _, _, h, o5.1, o5.2⟩
    clear hd hm
    obtain ⟨w, n, lo, hi, rfl, h1, h2⟩ := key
    simp_arith only [true_and]
    refine .inl ⟨n, lo, hi, rfl, rfl, rfl, ?_⟩
    rw [decide_eq_true ⟨h1, h2⟩]
    simp_arith only [true_and]
    exact ⟨_, (by repeat (first | exact Le.nil | apply Le.keep | apply Le.drop)), _, _, _, _, rfl, rfl⟩
  · rintro η G' ⟨a, b, z, e, rfl, rfl⟩
    exact k _ _ _ _
/-- a field set, what stands then told -/
theorem zh6 {C : Addr} {n : Str} {To Tv : DTE} {F : zh5} {η : DSt} {G : DHp} {x : Addr} {y : D} {fs fs' : List (Str × D)} (ho : ∀ R : DVK, R (.ref x) G → To η G R) (hv : ∀ R : DVK, R y G → Tv η G R) (hG : G x = some (.ins C fs)) (hl : fs.length < 1000) (hf : fput n y fs = fs')
    (k : F.nx η (up G x (.ins C fs'))) : zka C n To Tv F η G := z6o ho hG hl (by rw [hf]; exact k) hv
theorem zn0 : ∀ ds G Q, zaw ds G Q → zkp { nx := fun _ G' => Q .non G', rt := Q } (zav zd7 ds) G := fun ds G Q h => by
  obtain ⟨x, c, rfl, hG, ok, q⟩ := h
  refine zaad ok fun a b d e => ?_
  dsimp only [zi1, zi8, dSeq]
  refine zh6 (fs' := [("width", .int c.w)]) (fun R r => r) (fun R r => r) hG (by decide) rfl ?_
  dsimp only [zjj, zjf, dSeq]
  refine zh6 (fs' := [("width", .int c.w), ("height", .int c.h)]) (fun R r => r) (fun R r => r) zo (by show _ < 1000; simp) rfl ?_
  rw [zfe]
  dsimp only [zi6, zjb, dSeq]
  refine zh6 (fs' := [("width", .int c.w), ("height", .int c.h), ("error", .int c.er)]) (fun R r => r) (fun R r => r) zo (by show _ < 1000; simp) rfl ?_
  rw [zfe]
  dsimp only [zje, zi7, dSeq]
  refine zh6 (fs' := [("width", .int c.w), ("height", .int c.h), ("error", .int c.er), ("false", .int c.fa)]) (fun R r => r) (fun R r => r) zo (by show _ < 1000; simp) rfl ?_
  rw [zfe]
  dsimp only [zi9, zja, dSeq]
  refine zh6 (fs' := [("width", .int c.w), ("height", .int c.h), ("error", .int c.er), ("false", .int c.fa), ("lost", .int c.lo)]) (fun R r => r) (fun R r => r) zo (by show _ < 1000; simp) rfl ?_
  rw [zfe]
  exact q
theorem z4g {s : Sk} {m : Str} {G : DHp} (h : (["ground", "camera", "turns", "area"] : List Str).contains m = false) : insD CA.Sky m (sD s) G := ⟨rfl, h⟩
abbrev Pt := Int × Int × Int
/-- a sky such as the laws draw -/
structure OkSk (s : Sk) : Prop where
  cs : s.cs.length ≤ 100
  cb : ∀ c ∈ s.cs, okPt (0 - 1000000) 1000000 c
  cam : z7f s.cam
  tl : s.tu.length ≤ 4
  b1 : -1000 ≤ s.ar.1 ∧ s.ar.1 ≤ s.ar.2.1 ∧ s.ar.2.1 ≤ s.ar.1 + 99
  b2 : -1000 ≤ s.ar.2.2.1 ∧ s.ar.2.2.1 ≤ s.ar.2.2.2 ∧ s.ar.2.2.2 ≤ s.ar.2.2.1 + 99
  u1 : s.ar.1 ≤ 1000
  u2 : s.ar.2.2.1 ≤ 1000
def rowS (s : Sk) (t x : Int) : List (Int × Int × Int) := (za5 s.ar.2.2.1 (s.ar.2.2.2 + 1)).map fun y => (t, x, y)
def colS (s : Sk) (t : Int) : List (Int × Int × Int) := (za5 s.ar.1 (s.ar.2.1 + 1)).flatMap (rowS s t)
def zhe (s : Sk) : List (Int × Int × Int) := s.tu.flatMap (colS s)
theorem z7u {s : Sk} (h : OkSk s) (t x : Int) : (rowS s t x).length ≤ 100 := by
  unfold rowS; rw [List.length_map, za1]; have := h.b2; omega
theorem z4e {α β : Type} {l : List α} {f : α → List β} {i : Nat} {x : α} (e : l[i]? = some x) : (l.take (i + 1)).flatMap f = (l.take i).flatMap f ++ f x := by
  rw [zho e, List.flatMap_append]; simp
theorem z3l {s : Sk} (h : OkSk s) (t : Int) (j : Nat) : (((za5 s.ar.1 (s.ar.2.1 + 1)).take j).flatMap (rowS s t)).length ≤ 10000 := by
  refine Nat.le_trans (znz fun x _ => z7u h t x) ?_
  rw [List.length_take, za1]
  have := h.b1
  omega
theorem zxp {s : Sk} (h : OkSk s) (i : Nat) : ((s.tu.take i).flatMap (colS s)).length ≤ 40000 := by
  refine Nat.le_trans (znz (B := 10000) fun t _ => ?_) ?_
  · have := z3l h t (za5 s.ar.1 (s.ar.2.1 + 1)).length
    rw [List.take_length] at this
    exact this
  · rw [List.length_take]; have := h.tl; omega
def zb4 : DRn := fun ds G Q => ∃ s : Sk, ds = [sD s] ∧ OkSk s ∧ Q (eT e3 (zhe s)) G
abbrev zgm : List Str := ["self", "found", "turn", "first", "second"]
def zjd : DTS :=
    (dSeq (dAsg (zk8 dNil) (zn 1))
    (dSeq (dFor (zd4 (dFld CA.Sky "turns" (zf 0))) (zn 2)
    (dFor (zcn (zd (dOp dIx (dFld CA.Sky "area" (zf 0)) (dC (.int 0))) (zd (dOp dAdd (dOp dIx (dFld CA.Sky "area" (zf 0)) (dC (.int 1))) (dC (.int 1))) dNil))) (zn 3)
    (dFor (zcn (zd (dOp dIx (dFld CA.Sky "area" (zf 0)) (dC (.int 2))) (zd (dOp dAdd (dOp dIx (dFld CA.Sky "area" (zf 0)) (dC (.int 3))) (dC (.int 1))) dNil))) (zn 4)
    (zib (dM "list" zf9 (zf 1) (zd (dTup (zd (zf 2) (zd (zf 3) (zd (zf 4) dNil)))) dNil))))))
    (dFrz 1 (dRet (dCB zo1 (zd (zf 1) dNil))))))
theorem zp9 : ∀ ds G Q, zb4 ds G Q → ds.length = 1 := fun ds G Q ⟨c, e, _⟩ => by rw [e]; rfl
theorem zmf {s : Sk} {G : DHp} {Q : DVK} {i : Int} {z : Int} (h0 : 0 ≤ i) (h : [D.int s.ar.1, .int s.ar.2.1, .int s.ar.2.2.1, .int s.ar.2.2.2][i.toNat]? = some (.int z)) (q : Q (.int z) G) : dIx (e4 s.ar) (.int i) G Q := ztl h0 h q
theorem zqb : ∀ ds G Q, zb4 ds G Q → zjd { nx := fun _ G' => Q .non G', rt := Q } (zav zgm ds) G := fun ds G Q h => by
  obtain ⟨s, rfl, ok, q⟩ := h
  simp_arith only [zjd, zgm]
  intro p hp
  simp_arith only [dFor, zd4, dFld, z0x, eT]
  refine ⟨fun i η G' => ∃ a b c, η = [some (sD s), some (.ref p), a, b, c] ∧ G' = up G p (.lst (((s.tu.take i).flatMap (colS s)).map e3)), ⟨none, none, none, rfl, rfl⟩, fun _ _ _ _ => trivial, ?_, ?_⟩
  · rintro i d η G' hd ⟨a, b, c, rfl, rfl⟩
    obtain ⟨t, ht, rfl⟩ := zcq hd
    simp_arith only [zcn, dFld, zzb]
    refine zmf (by decide) rfl (zmf (by decide) rfl ?_)
    simp_arith only [true_and]
    have hb := ok.b1; have hb2 := ok.b2; have hu := ok.u1; have hu2 := ok.u2
    refine ⟨⟨by omega, by omega, by omega, by omega⟩, fun j η G' => ∃ b c, η = [some (sD s), some (.ref p), some (.int t), b, c] ∧ G' = up G p (.lst (((s.tu.take i).flatMap (colS s) ++ ((za5 s.ar.1 (s.ar.2.1 + 1)).take j).flatMap (rowS s t)).map e3)), ⟨b, c, rfl, by simp⟩, fun _ _ _ _ => trivial, ?_, ?_⟩
    · rintro j d η G' hd ⟨b, c, rfl, rfl⟩
      obtain ⟨x, hx, rfl⟩ := zcq hd
      simp_arith only [zcn, dFld, zzb]
      refine zmf (by decide) rfl (zmf (by decide) rfl ?_)
      simp_arith only [true_and]
      refine ⟨⟨by omega, by omega, by omega, by omega⟩, fun k η G' => ∃ c, η = [some (sD s), some (.ref p), some (.int t), some (.int x), c] ∧ G' = up G p (.lst ((((s.tu.take i).flatMap (colS s) ++ ((za5 s.ar.1 (s.ar.2.1 + 1)).take j).flatMap (rowS s t)) ++ ((za5 s.ar.2.2.1 (s.ar.2.2.2 + 1)).take k).map fun y => (t, x, y)).map e3)), ⟨c, rfl, by simp⟩, fun _ _ _ _ => trivial, ?_, ?_⟩
      · rintro k d η G' hd ⟨c, rfl, rfl⟩
        obtain ⟨y, hy, rfl⟩ := zcq hd
        have l1 := zxp ok i
        have l2 := z3l ok t j
        simp_arith only [true_and]
        refine zll zo (zb0 ?_) ?_
        · rw [List.length_map, List.length_append, List.length_append, List.length_map, List.length_take, za1]; omega
        · rw [zfe]
          refine ⟨_, (by repeat (first | exact Le.nil | apply Le.keep | apply Le.drop)), _, rfl, ?_⟩
          rw [zho hy]
          simp only [List.map_append, List.append_assoc, List.map_cons, List.map_nil]
          rfl
      · rintro η G' ⟨c, rfl, rfl⟩
        rw [List.length_map, List.take_length]
        refine ⟨_, (by repeat (first | exact Le.nil | apply Le.keep | apply Le.drop)), _, _, rfl, ?_⟩
        rw [z4e hx, List.append_assoc]
        rfl
    · rintro η G' ⟨b, c, rfl, rfl⟩
      rw [List.length_map, List.take_length]
      refine ⟨_, (by repeat (first | exact Le.nil | apply Le.keep | apply Le.drop)), _, _, _, rfl, ?_⟩
      rw [z4e ht]
      rfl
  · rintro η G' ⟨a, b, c, rfl, rfl⟩
    rw [List.length_map, List.take_length]
    simp_arith only [zo, zc8 hp]
    rw [zp6 (ds := (zhe s).map e3) rfl]
    exact q
def inA (s : Sk) (sh : Int × Int) : Prop := (s.ar.1 ≤ sh.1 ∧ sh.1 ≤ s.ar.2.1) ∧ s.ar.2.2.1 ≤ sh.2 ∧ sh.2 ≤ s.ar.2.2.2
def z4v (s : Sk) : List (Int × Int) := (za5 s.ar.1 (s.ar.2.1 + 1)).flatMap fun x => (za5 s.ar.2.2.1 (s.ar.2.2.2 + 1)).map fun y => (x, y)
theorem z02 {s : Sk} {sh : Int × Int} : sh ∈ z4v s ↔ inA s sh := by
  unfold z4v inA
  rw [List.mem_flatMap]
  constructor
  · rintro ⟨x, hx, h⟩
    obtain ⟨y, hy, rfl⟩ := List.mem_map.mp h
    rw [mem_range] at hx hy
    dsimp only
    omega
  · rintro ⟨h1, h2⟩
    exact ⟨sh.1, mem_range.mpr (by omega), List.mem_map.mpr ⟨sh.2, mem_range.mpr (by omega), rfl⟩⟩
/-- the shift of a standing by a turn -/
def atT (t : Int) (sh : Int × Int) : Pt := (t, sh.1, sh.2)
theorem zyn (s : Sk) (t : Int) : colS s t = (z4v s).map (atT t) := by
  unfold colS z4v rowS
  rw [List.map_flatMap]
  congr 1
  funext x
  rw [List.map_map]
  rfl
def isSt (s : Sk) (st : Pt) : Prop := (0 ≤ st.1 ∧ st.1 ≤ 3) ∧ inA s st.2 ∧ st.1 ∈ s.tu
instance (s : Sk) (st : Pt) : Decidable (isSt s st) := by unfold isSt inA; infer_instance
theorem zyp {s : Sk} {st : Pt} (ht : ∀ t ∈ s.tu, 0 ≤ t ∧ t ≤ 3) : st ∈ zhe s ↔ isSt s st := by
  unfold zhe isSt
  rw [List.mem_flatMap]
  constructor
  · rintro ⟨t, h1, h2⟩
    rw [zyn] at h2
    obtain ⟨sh, hs, rfl⟩ := List.mem_map.mp h2
    exact ⟨ht t h1, z02.mp hs, h1⟩
  · rintro ⟨h1, h2, h3⟩
    exact ⟨st.1, h3, by rw [zyn]; exact List.mem_map.mpr ⟨st.2, z02.mpr h2, rfl⟩⟩
structure OkSI (tu : List Int) (ar : Int × Int × Int × Int) : Prop where
  ne : tu ≠ []
  t3 : ∀ t ∈ tu, 0 ≤ t ∧ t ≤ 3
  asc : tu.Pairwise (· < ·)
  tl : tu.length ≤ 4
  a1 : -1000000 ≤ ar.1 ∧ ar.1 ≤ ar.2.1 ∧ ar.2.1 ≤ 1000000
  a2 : -1000000 ≤ ar.2.2.1 ∧ ar.2.2.1 ≤ ar.2.2.2 ∧ ar.2.2.2 ≤ 1000000
  few : (tu.length : Int) * (ar.2.1 - ar.1 + 1) * (ar.2.2.2 - ar.2.2.1 + 1) ≤ 40000
def zc4 : DRn := fun ds G Q => ∃ (x : Addr) (s : Sk), ds = [.ref x, gD s.cs, cD s.cam, eT .int s.tu, e4 s.ar] ∧ G x = some (.ins CA.Sky []) ∧ OkSI s.tu s.ar ∧
  Q .non (up G x (.ins CA.Sky [("ground", gD s.cs), ("camera", cD s.cam), ("turns", eT .int s.tu), ("area", e4 s.ar)]))
abbrev zez : List Str := ["self", "ground", "camera", "turns", "area", "turn", "one", "other", "number"]
def zif : DTS :=
    (dIfS (dOr (dNot (zan (dCB (dIsi isT) (zd (zf 3) (zd (dC (.ty "tuple")) dNil))))) (dOr (zan (dOp dEq (zf 3) (dTup dNil))) (dNot (zan (dCB dAll (zd (dFz (dLc (zd4 (zf 3)) (zn 5) dYes (dCB zy (zd (zf 5) (zd (dC (.int 0)) (zd (dC (.int 3)) dNil)))) [5])) dNil))))))
    zcx
    zck)
def zie : DTS :=
    (dIfS (dNot (zan (dCB dAll (zd (dFz (dLc (z8k (zd (zf 3) (zd (zkw dSl (zf 3) (zqf (dC (.int 1))) zhs) dNil))) (zf6 (zag (zn 6) (zag (zn 7) zgc)) 2) dYes (dOp dLt (zf 6) (zf 7)) [6, 7])) dNil))))
    zcx
    zck)
def zia : DTS :=
    (dIfS (dOr (dNot (zan (dCB (dIsi isT) (zd (zf 4) (zd (dC (.ty "tuple")) dNil))))) (zan (dOp dNe (dCB dLen (zd (zf 4) dNil)) (dC (.int 4)))))
    zcx
    zck)
def zih : DTS :=
    (dIfS (dNot (zan (dCB dAll (zd (dFz (dLc (zd4 (zf 4)) (zn 8) dYes (dCB zy (zd (zf 8) (zd (dOp dSub (dC (.int 0)) (dC (.int 1000000))) (zd (dC (.int 1000000)) dNil)))) [8])) dNil))))
    zcx
    zck)
def zh8 : DTS :=
    (dIfS (dOr (zan (dOp dGt (dOp dIx (zf 4) (dC (.int 0))) (dOp dIx (zf 4) (dC (.int 1))))) (zan (dOp dGt (dOp dIx (zf 4) (dC (.int 2))) (dOp dIx (zf 4) (dC (.int 3))))))
    zcx
    zck)
def zid : DTS :=
    (dIfS (zan (dOp dGt (dOp dMul (dOp dMul (dCB dLen (zd (zf 3) dNil)) (dOp dAdd (dOp dSub (dOp dIx (zf 4) (dC (.int 1))) (dOp dIx (zf 4) (dC (.int 0)))) (dC (.int 1)))) (dOp dAdd (dOp dSub (dOp dIx (zf 4) (dC (.int 3))) (dOp dIx (zf 4) (dC (.int 2)))) (dC (.int 1)))) (dC (.int 40000))))
    zcx
    zck)
def zl1 : DTS :=
    (zka CA.Sky "ground" (zf 0) (zf 1))
def zmk : DTS :=
    (zka CA.Sky "camera" (zf 0) (zf 2))
def zml : DTS :=
    (zka CA.Sky "turns" (zf 0) (zf 3))
def zma : DTS :=
    (zka CA.Sky "area" (zf 0) (zf 4))
def zl5 : DTS :=
    zma
def zmd : DTS :=
    (dSeq zml zl5)
def zmh : DTS :=
    (dSeq zmk zmd)
def zme : DTS :=
    (dSeq zl1 zmh)
def zmn : DTS :=
    (dSeq zid zme)
def zmc : DTS :=
    (dSeq zh8 zmn)
def zl8 : DTS :=
    (dSeq zih zmc)
def zmb : DTS :=
    (dSeq zia zl8)
def zl9 : DTS :=
    (dSeq zie zmb)
def znn : DTS :=
    (dSeq zif zl9)
theorem zq7 : ∀ ds G Q, zc4 ds G Q → ds.length = 5 := fun ds G Q ⟨x, c, e, _⟩ => by rw [e]; rfl
def stSk (x : Addr) (s : Sk) : DSt := [some (.ref x), some (gD s.cs), some (cD s.cam), some (eT .int s.tu), some (e4 s.ar), none, none, none, none]
theorem zaaa {F : zh5} {x : Addr} {s : Sk} {G : DHp} (ok : OkSI s.tu s.ar) (k : F.nx (stSk x s) G) : zif F (stSk x s) G := by
  simp_arith only [zif, stSk, eT, zfk]
  refine ztb (zru (f := .int) zyi s.tu) rfl (Nat.le_trans (zrg (B := 0) (f := .int) (fun a => Nat.le_of_eq (zev a)) s.tu) (by decide)) (show PyData.depth (py (.nd .tup [])) ≤ 64 by decide) false ⟨fun z => (by cases z), fun z => ?_⟩ ?_
  · exfalso
    have z2 : D.nd .tup (s.tu.map .int) = .nd .tup [] := z
    have z3 : s.tu.map D.int = [] := by injection z2
    exact ok.ne (List.map_eq_nil_iff.mp z3)
  · simp_arith only [true_and]
    refine zjt (xs := s.tu) (f := .int) (fun t : Int => .bl (decide (0 ≤ t ∧ t ≤ 3))) (by have := ok.tl; omega) (fun R r => by simp_arith only [zd4]; exact r) (fun t ht G1 A a => ?_) fun p hp => ?_
    · simp_arith only [true_and]
      exact .inl ⟨_, _, _, rfl, rfl, rfl, a⟩
    · simp_arith only [zo, zc8 hp, DO.tree]
      refine zkd ?_
      rw [List.all_eq_true.mpr fun t ht => decide_eq_true (ok.t3 t ht)]
      simp_arith only [true_and]
      exact k
theorem zaag {F : zh5} {x : Addr} {s : Sk} {G : DHp} (ok : OkSI s.tu s.ar) (k : F.nx (stSk x s) G) : zie F (stSk x s) G := by
  simp_arith only [zie, stSk]
  refine zjt (xs := s.tu.zip (s.tu.drop 1)) (f := e2) (fun t : Int × Int => .bl (decide (t.1 < t.2))) (by have := ok.tl; rw [List.length_zip]; omega) (fun R r => ?_) (fun t ht G1 A a => ?_) fun p hp => ?_
  · simp_arith only [z8k, eT]
    unfold dSl
    have e : cutD (s.tu.map D.int) (some 1) none = (s.tu.drop 1).map .int := by
      have := z4q (s.tu.map D.int) 1
      rw [List.map_drop]
      exact this
    dsimp only [der]
    rw [e]
    have e2' : zipL (s.tu.map D.int) ((s.tu.drop 1).map .int) = (s.tu.zip (s.tu.drop 1)).map e2 := by
      unfold zipL
      rw [List.zipWith_map, List.zip, List.map_zipWith]
      rfl
    rw [e2']
    exact r
  · simp_arith only [e2]
    exact a
  · simp_arith only [zo, zc8 hp, DO.tree]
    refine zkd ?_
    rw [List.all_eq_true.mpr fun t ht => decide_eq_true ?_]
    · simp_arith only [true_and]
      exact k
    · obtain ⟨i, hi, e⟩ := List.getElem_of_mem ht
      rw [List.length_zip, List.length_drop] at hi
      rw [List.getElem_zip, List.getElem_drop] at e
      rw [← e]
      exact (List.pairwise_iff_getElem.mp ok.asc) i (1 + i) (by omega) (by omega) (by omega)
theorem z9g {F : zh5} {x : Addr} {s : Sk} {G : DHp} (k : F.nx (stSk x s) G) : zia F (stSk x s) G := by
  simp_arith only [zia, stSk, e4, zfk]
  rw [len4]
  simp_arith only [true_and]
  rw [if_neg (by decide)]
  exact k
theorem z87 {F : zh5} {x : Addr} {s : Sk} {G : DHp} (ok : OkSI s.tu s.ar) (k : F.nx (stSk x s) G) : zih F (stSk x s) G := by
  simp_arith only [zih, stSk]
  have a1 := ok.a1
  have a2 := ok.a2
  refine zjt (xs := [s.ar.1, s.ar.2.1, s.ar.2.2.1, s.ar.2.2.2]) (f := .int) (fun t : Int => .bl (decide (0 - 1000000 ≤ t ∧ t ≤ 1000000))) (show 4 ≤ 1000000 by omega) (fun R r => by simp_arith only [zd4, e4]; exact r) (fun t ht G1 A a => ?_) fun p hp => ?_
  · simp_arith only [true_and]
    exact .inl ⟨_, _, _, rfl, rfl, rfl, a⟩
  · simp_arith only [zo, zc8 hp, DO.tree]
    refine zkd (xs := [s.ar.1, s.ar.2.1, s.ar.2.2.1, s.ar.2.2.2]) (b := fun t : Int => decide (0 - 1000000 ≤ t ∧ t ≤ 1000000)) ?_
    rw [List.all_eq_true.mpr fun t ht => decide_eq_true ?_]
    · simp_arith only [true_and]
      exact k
    · simp only [List.mem_cons, List.not_mem_nil, or_false] at ht
      rcases ht with rfl | rfl | rfl | rfl <;> omega
theorem z9x {F : zh5} {x : Addr} {s : Sk} {G : DHp} (ok : OkSI s.tu s.ar) (k : F.nx (stSk x s) G) : zh8 F (stSk x s) G := by
  simp_arith only [zh8, stSk]
  have a1 := ok.a1
  have a2 := ok.a2
  refine zmf (by decide) rfl (zmf (by decide) rfl ?_)
  simp_arith only [true_and]
  rw [if_neg (by omega)]
  refine zmf (by decide) rfl (zmf (by decide) rfl ?_)
  simp_arith only [true_and]
  rw [if_neg (by omega)]
  exact k
theorem z9i {F : zh5} {x : Addr} {s : Sk} {G : DHp} (ok : OkSI s.tu s.ar) (k : F.nx (stSk x s) G) : zid F (stSk x s) G := by
  simp_arith only [zid, stSk, zvd]
  have a1 := ok.a1
  have a2 := ok.a2
  have tl := ok.tl
  refine zmf (by decide) rfl (zmf (by decide) rfl ?_)
  simp_arith only [true_and]
  refine ⟨z31 (by omega), ?_⟩
  refine zmf (by decide) rfl (zmf (by decide) rfl ?_)
  simp_arith only [true_and]
  refine ⟨?_, ?_⟩
  · exact .inr ⟨by omega, by omega⟩
  · have := ok.few
    rw [if_neg (by omega)]
    exact k
theorem zqw : ∀ ds G Q, zc4 ds G Q → znn { nx := fun _ G' => Q .non G', rt := Q } (zav zez ds) G := fun ds G Q h => by
  obtain ⟨x, s, rfl, hG, ok, q⟩ := h
  refine zaaa ok ?_
  dsimp only [zl9, dSeq]
  refine zaag ok ?_
  dsimp only [zmb, dSeq]
  refine z9g ?_
  dsimp only [zl8, dSeq]
  refine z87 ok ?_
  dsimp only [zmc, dSeq]
  refine z9x ok ?_
  dsimp only [zmn, dSeq]
  refine z9i ok ?_
  dsimp only [zme, zl1, dSeq]
  refine zh6 (fs' := [("ground", gD s.cs)]) (fun R r => r) (fun R r => r) hG (by decide) rfl ?_
  dsimp only [zmh, zmk, dSeq]
  refine zh6 (fs' := [("ground", gD s.cs), ("camera", cD s.cam)]) (fun R r => r) (fun R r => r) zo (by show _ < 1000; simp) rfl ?_
  rw [zfe]
  dsimp only [zmd, zml, dSeq]
  refine zh6 (fs' := [("ground", gD s.cs), ("camera", cD s.cam), ("turns", eT .int s.tu)]) (fun R r => r) (fun R r => r) zo (by show _ < 1000; simp) rfl ?_
  rw [zfe]
  dsimp only [zl5, zma, dSeq]
  refine zh6 (fs' := [("ground", gD s.cs), ("camera", cD s.cam), ("turns", eT .int s.tu), ("area", e4 s.ar)]) (fun R r => r) (fun R r => r) zo (by show _ < 1000; simp) rfl ?_
  rw [zfe]
  exact q
def z5 : DRn := fun l G Q => ∃ (a : Addr) (ns : List Int) (c : Int) (G0 : DHp) (it : D) (ds : List D), l = [.ref a, it] ∧ G = Gw G0 a ns c ∧ ns.length ≤ 63 ∧ (it = .nd .lst ds ∨ it = .nd .tup ds) ∧ 0 < ds.length ∧ ∀ d ∈ ds, Q d (Gw G0 a ns (c + 1))
abbrev zlw : List Str := ["draw", "items"]
def zok : DTS :=
    (dRet (dOp dIx (zf 1) (dCB zi (zd (zf 0) (zd (dCB dLen (zd (zf 1) dNil)) dNil)))))
theorem zwl : ∀ ds G Q, z5 ds G Q → ds.length = 2 := fun ds G Q ⟨_, _, _, _, _, _, e, _⟩ => by rw [e]; rfl
theorem z4k {it : D} {ds : List D} {i : Int} {d : D} {G : DHp} {Q : DVK} (hi : it = .nd .lst ds ∨ it = .nd .tup ds) (h0 : 0 ≤ i) (e : ds[i.toNat]? = some d) (q : Q d G) : dIx it (.int i) G Q := by
  rcases hi with rfl | rfl
  · exact zoa h0 e q
  · exact zoa h0 e q
theorem zw1 : ∀ ds G Q, z5 ds G Q → zok { nx := fun _ G' => Q .non G', rt := Q } (zav zlw ds) G := fun l G Q h => by
  obtain ⟨a, ns, c, G0, it, ds, rfl, rfl, hl, hi, hd, q⟩ := h
  simp_arith only [zok, zlw]
  rw [zn8 (ds := ds) (by rcases hi with rfl | rfl <;> rfl)]
  refine zbm (by omega) hl fun r h0 h1 => ?_
  have hr : ds[r.toNat]? = some ds[r.toNat] := List.getElem?_eq_getElem (by omega)
  exact z4k hi h0 hr (q _ (List.mem_of_getElem? hr))
end M
namespace M
open PySem PySem.Spec PyProof.Rows L2 DL
variable [CA]
theorem z9f (a b : List Int) : PySem.W.dataLe false py (eR a) (eR b) = decide (a ≤ b) := by
  rw [← z19, PySem.W.dataLe_eq]
  have e : ∀ k : List Int, py (eR k) = .tuple (k.map .int) := fun k => by
    unfold eR
    rw [py]
    congr 1
    induction k with
    | nil => rw [List.map_nil, pys]; rfl
    | cons x k ih => rw [List.map_cons, pys, ih, py]; rfl
  show (cond false _ (!PySem.W.dataLt (py (eR b)) (py (eR a)))) = _
  rw [e, e]; rfl
/-- what sorted(set(..)) tells is the sorted row of the same things -/
theorem z3x {α : Type} [DecidableEq α] {f : α → D} {g : α → List Int} (fg : ∀ a, f a = eR (g a)) (gi : ∀ a b, g a = g b → a = b) {xs ys : List α} {ls : List (List Int)} (nd : ls.Nodup) (hm : ∀ k, k ∈ ls ↔ k ∈ xs.map g) (hx : ∀ a, a ∈ ys ↔ a ∈ xs) (hs : ys.Pairwise fun a b => g a < g b) : srt (ls.map eR) = ys.map f := by
  have hnd : (ys.map g).Nodup := List.pairwise_map.mpr (hs.imp fun h e => by rw [e] at h; exact absurd h (List.lt_irrefl _))
  have p : ls.Perm (ys.map g) := z1v nd hnd fun k => by
    rw [hm, List.mem_map, List.mem_map]
    exact ⟨fun ⟨a, h, e⟩ => ⟨a, (hx a).mpr h, e⟩, fun ⟨a, h, e⟩ => ⟨a, (hx a).mp h, e⟩⟩
  rw [z3z, z8t (f := eR) (g := id) z9f (fun _ _ h => h) p, z2u (f := eR) (g := id) z9f (List.pairwise_map.mpr (hs.imp fun h => List.le_of_lt h)), List.map_map]
  exact List.map_congr_left fun a _ => (fg a).symm
inductive Dd where
  | step (fu : Int) (aim : Int × Int) (sl : List (Int × Int))
  | turn (fu aim : Int)
  | look (fu aim : Int)
  | land (fu : Int) (sl : List (Int × Int))
  | away (fu : Int)
def Dd.kind : Dd → Str
  | .step .. => "step"
  | .turn .. => "turn"
  | .look .. => "look"
  | .land .. => "land"
  | .away .. => "away"
def Dd.fuel : Dd → Int
  | .step f _ _ => f
  | .turn f _ => f
  | .look f _ => f
  | .land f _ => f
  | .away f => f
def Dd.aim : Dd → D
  | .step _ a _ => e2 a
  | .turn _ a => .int a
  | .look _ a => .int a
  | .land _ _ => .non
  | .away _ => .non
def Dd.sl : Dd → List (Int × Int)
  | .step _ _ s => s
  | .land _ s => s
  | _ => [(0, 0)]
def ddD (d : Dd) : D := .nd (.ins CA.Deed ["kind", "fuel", "aim", "slips"]) [.str d.kind, .int d.fuel, d.aim, eT e2 d.sl]
def okSh (p : Int × Int) : Prop := (-1000 ≤ p.1 ∧ p.1 ≤ 1000) ∧ -1000 ≤ p.2 ∧ p.2 ≤ 1000
def Dd.okAim : Dd → Prop
  | .step _ a _ => okSh a
  | .turn _ a => 1 ≤ a ∧ a ≤ 3
  | .look _ a => 0 ≤ a ∧ a ≤ 1000
  | _ => True
def lt2 (a b : Int × Int) : Prop := [a.1, a.2] < [b.1, b.2]
structure OkDd (d : Dd) : Prop where
  fu : 1 ≤ d.fuel ∧ d.fuel ≤ 1000
  aim : d.okAim
  ne : d.sl ≠ []
  sh : ∀ p ∈ d.sl, okSh p
  srt : d.sl.Pairwise lt2
  few : d.sl.length < 64
section
variable {G : DHp}
theorem z69 {d : Dd} : fldD CA.Deed "kind" (ddD d) G = some (.str d.kind) := by unfold ddD; rw [zlx]; rfl
theorem z81 {d : Dd} : fldD CA.Deed "aim" (ddD d) G = some d.aim := by unfold ddD; rw [zlx]; rfl
end
theorem zm7 : PyData.strOk ("step" : Str) = true := by decide +kernel
theorem zmt : PyData.strOk ("turn" : Str) = true := by decide +kernel
theorem zhq : PyData.strOk ("look" : Str) = true := by decide +kernel
theorem zsd : PyData.strOk ("land" : Str) = true := by decide +kernel
theorem ztc : PyData.strOk ("away" : Str) = true := by decide +kernel
theorem z3p (d : Dd) : PyData.strOk d.kind = true := match d with
  | .step .. => zm7
  | .turn .. => zmt
  | .look .. => zhq
  | .land .. => zsd
  | .away .. => ztc
/-- is_shift, of pairs -/
def zb8 : DRn := d1 fun t G Q => ∃ p : Int × Int, t = e2 p ∧ okSh p ∧ Q (.bl true) G
abbrev zk5 : List Str := ["thing", "one"]
def zqa : DTS :=
    (dRet (zk1 (dCB (dIsi isT) (zd (zf 0) (zd (dC (.ty "tuple")) dNil))) (zk1 (dOp dEq (dCB dLen (zd (zf 0) dNil)) (dC (.int 2))) (dCB dAll (zd (dFz (dLc (zd4 (zf 0)) (zn 1) dYes (dCB zy (zd (zf 1) (zd (dNeg (dC (.int 1000))) (zd (dC (.int 1000)) dNil)))) [1])) dNil)))))
theorem zx4 : ∀ ds G Q, zb8 ds G Q → ds.length = 1 := fun ds G Q h => by
  match ds, h with
  | [_], _ => rfl
theorem zxe : ∀ ds G Q, zb8 ds G Q → zqa { nx := fun _ G' => Q .non G', rt := Q } (zav zk5 ds) G := fun ds G Q h => by
  match ds, h with
  | [_], ⟨p, rfl, ok, q⟩ =>
    simp_arith only [zqa, zk5, e2, zfk]
    rw [zw6]
    simp_arith only [true_and]
    rw [if_pos (by decide)]
    refine zjt (xs := [p.1, p.2]) (f := .int) (fun t : Int => .bl (decide (-1000 ≤ t ∧ t ≤ 1000))) (show 2 ≤ 1000000 by omega) (fun R r => by simp_arith only [zd4]; exact r) (fun t ht G1 A a => ?_) fun w hw => ?_
    · simp_arith only [true_and]
      exact .inl ⟨_, _, _, rfl, rfl, rfl, a⟩
    · simp_arith only [zo, zc8 hw, DO.tree]
      refine zkd (xs := [p.1, p.2]) (b := fun t : Int => decide (-1000 ≤ t ∧ t ≤ 1000)) ?_
      rw [List.all_eq_true.mpr fun t ht => decide_eq_true ?_]
      · exact q
      · simp only [List.mem_cons, List.not_mem_nil, or_false] at ht
        rcases ht with rfl | rfl
        · exact ok.1
        · exact ok.2
def zfm : DRn := d2 fun k a G Q => ∃ d : Dd, k = .str d.kind ∧ a = d.aim ∧ d.okAim ∧ Q (.bl false) G
abbrev zfl : List Str := ["kind", "aim"]
def zgb : DTS :=
    (dSeq (dIfS (zan (dOp dEq (zf 0) (dC (.str "step"))))
    (dRet (zn9 (dCB zb8 (zd (zf 1) dNil))))
    zck)
    (dSeq (dIfS (zan (dOp dEq (zf 0) (dC (.str "turn"))))
    (dRet (zn9 (dCB zy (zd (zf 1) (zd (dC (.int 1)) (zd (dC (.int 3)) dNil))))))
    zck)
    (dSeq (dIfS (zan (dOp dEq (zf 0) (dC (.str "look"))))
    (dRet (zn9 (dCB zy (zd (zf 1) (zd (dC (.int 0)) (zd (dC (.int 1000)) dNil))))))
    zck)
    (dRet (dOp (dIsN true) (zf 1) (dC .non))))))
theorem zwh : ∀ ds G Q, zfm ds G Q → ds.length = 2 := fun ds G Q h => by
  match ds, h with
  | [_, _], _ => rfl
theorem zvx : ∀ ds G Q, zfm ds G Q → zgb { nx := fun _ G' => Q .non G', rt := Q } (zav zfl ds) G := fun ds G Q h => by
  match ds, h with
  | [_, _], ⟨d, rfl, rfl, ok, q⟩ =>
    cases d with
    | step f a s =>
      simp_arith only [zgb, zfl]
      refine zfi zm7 zm7 true (show (("step" : Str) == "step") = true by decide +kernel) ?_
      simp_arith only [true_and]
      exact ⟨a, rfl, ok, q⟩
    | turn f a =>
      simp_arith only [zgb, zfl]
      refine zfi zmt zm7 false (show (("turn" : Str) == "step") = false by decide +kernel) ?_
      simp_arith only [true_and]
      refine zfi zmt zmt true (show (("turn" : Str) == "turn") = true by decide +kernel) ?_
      simp_arith only [true_and]
      refine .inl ⟨a, 1, 3, rfl, rfl, rfl, ?_⟩
      rw [decide_eq_true (show _ ∧ _ from ok)]
      exact q
    | look f a =>
      simp_arith only [zgb, zfl]
      refine zfi zhq zm7 false (show (("look" : Str) == "step") = false by decide +kernel) ?_
      simp_arith only [true_and]
      refine zfi zhq zmt false (show (("look" : Str) == "turn") = false by decide +kernel) ?_
      simp_arith only [true_and]
      refine zfi zhq zhq true (show (("look" : Str) == "look") = true by decide +kernel) ?_
      simp_arith only [true_and]
      refine .inl ⟨a, 0, 1000, rfl, rfl, rfl, ?_⟩
      rw [decide_eq_true (show _ ∧ _ from ok)]
      exact q
    | land f s =>
      simp_arith only [zgb, zfl]
      refine zfi zsd zm7 false (show (("land" : Str) == "step") = false by decide +kernel) ?_
      simp_arith only [true_and]
      refine zfi zsd zmt false (show (("land" : Str) == "turn") = false by decide +kernel) ?_
      simp_arith only [true_and]
      refine zfi zsd zhq false (show (("land" : Str) == "look") = false by decide +kernel) ?_
      simp_arith only [true_and]
      exact q
    | away f =>
      simp_arith only [zgb, zfl]
      refine zfi ztc zm7 false (show (("away" : Str) == "step") = false by decide +kernel) ?_
      simp_arith only [true_and]
      refine zfi ztc zmt false (show (("away" : Str) == "turn") = false by decide +kernel) ?_
      simp_arith only [true_and]
      refine zfi ztc zhq false (show (("away" : Str) == "look") = false by decide +kernel) ?_
      simp_arith only [true_and]
      exact q
end M
namespace M
open PySem PySem.Spec PyProof.Rows L2 DL
variable [CA]
theorem zxw (x : Str) : (py (.str x)).depth ≤ 64 := by rw [py, PyData.depth]; decide
def Dd.calm : Dd → Prop
  | .step .. => False
  | .land .. => False
  | _ => True
def k2 (p : Int × Int) : List Int := [p.1, p.2]
theorem z2a (a b : Int × Int) (h : k2 a = k2 b) : a = b := by
  unfold k2 at h
  simp only [List.cons.injEq, and_true] at h
  exact Prod.ext h.1 h.2
theorem zabq (p : Int × Int) : e2 p = eR (k2 p) := rfl
/-- what is made of a kind, a fuel, an aim, slips -/
structure Mk4 (d : Dd) (sl : List (Int × Int)) : Prop where
  ok : OkDd d
  mem : ∀ p, p ∈ d.sl ↔ p ∈ sl
  few : sl.length < 64
  calm : d.calm → sl = [(0, 0)]
def zaaj (d : Dd) : List (Str × D) := [("kind", .str d.kind), ("fuel", .int d.fuel), ("aim", d.aim), ("slips", eT e2 d.sl)]
def zw : DRn := fun ds G Q => ∃ (x : Addr) (d : Dd) (sl : List (Int × Int)), ds = [.ref x, .str d.kind, .int d.fuel, d.aim, eT e2 sl] ∧ G x = some (.ins CA.Deed []) ∧ Mk4 d sl ∧ Q .non (up G x (.ins CA.Deed (zaaj d)))
abbrev zg7 : List Str := ["self", "kind", "fuel", "aim", "slips", "one"]
def zhl : DTS :=
    (dIfS (zan (dOp (dIn true) (zf 1) (dC (.nd .tup [.str "step", .str "turn", .str "look", .str "land", .str "away"]))))
    zcx
    zck)
def zht : DTS :=
    (dIfS (dNot (zan (dCB zy (zd (zf 2) (zd (dC (.int 1)) (zd (dC (.int 1000)) dNil))))))
    zcx
    zck)
def zhh : DTS :=
    (dIfS (zan (dCB zfm (zd (zf 1) (zd (zf 3) dNil))))
    zcx
    zck)
def zhg : DTS :=
    (dIfS (dOr (dNot (zan (dCB (dIsi isT) (zd (zf 4) (zd (dC (.ty "tuple")) dNil))))) (dOr (zan (dOp dEq (zf 4) (dTup dNil))) (dNot (zan (dCB dAll (zd (dFz (dLc (zd4 (zf 4)) (zn 5) dYes (dCB zb8 (zd (zf 5) dNil)) [5])) dNil))))))
    zcx
    zck)
def zhr : DTS :=
    (dIfS (dAnd (zan (dOp (dIn false) (zf 1) (dTup (zd (dC (.str "turn")) (zd (dC (.str "look")) (zd (dC (.str "away")) dNil)))))) (zan (dOp dNe (zf 4) (dTup (zd (dTup (zd (dC (.int 0)) (zd (dC (.int 0)) dNil))) dNil)))))
    zcx
    zck)
def zlb : DTS :=
    (zka CA.Deed "kind" (zf 0) (zf 1))
def zk7 : DTS :=
    (zka CA.Deed "fuel" (zf 0) (zf 2))
def zkz : DTS :=
    (zka CA.Deed "aim" (zf 0) (zf 3))
def zk9 : DTS :=
    (zka CA.Deed "slips" (zf 0) (dCB zo1 (zd (dFz (zte (zf 4))) dNil)))
def zkq : DTS :=
    zk9
def zky : DTS :=
    (dSeq zkz zkq)
def zk4 : DTS :=
    (dSeq zk7 zky)
def zks : DTS :=
    (dSeq zlb zk4)
def zkr : DTS :=
    (dSeq zhr zks)
def zku : DTS :=
    (dSeq zhg zkr)
def zkx : DTS :=
    (dSeq zhh zku)
def zk6 : DTS :=
    (dSeq zht zkx)
def zm6 : DTS :=
    (dSeq zhl zk6)
theorem zqc : ∀ ds G Q, zw ds G Q → ds.length = 5 := fun ds G Q ⟨x, d, sl, e, _⟩ => by rw [e]; rfl
def stDd (x : Addr) (d : Dd) (sl : List (Int × Int)) : DSt := [some (.ref x), some (.str d.kind), some (.int d.fuel), some d.aim, some (eT e2 sl), none]
section
variable {F : zh5} {x : Addr} {d : Dd} {sl : List (Int × Int)} {G : DHp}
theorem zabh (k : F.nx (stDd x d sl) G) : zhl F (stDd x d sl) G := by
  simp_arith only [zhl, stDd, zcx]
  refine z38 (ds := [.str "step", .str "turn", .str "look", .str "land", .str "away"]) (.inr rfl) (z3p d) (by decide +kernel) (zxw _) true ⟨fun _ => ?_, fun _ => rfl⟩ ?_
  · cases d <;> simp [Dd.kind]
  · simp_arith only [true_and]
    exact k
theorem zabn (m : Mk4 d sl) (k : F.nx (stDd x d sl) G) : zht F (stDd x d sl) G := by
  simp_arith only [zht, stDd, zcx]
  refine .inl ⟨d.fuel, 1, 1000, rfl, rfl, rfl, ?_⟩
  rw [decide_eq_true m.ok.fu]
  simp_arith only [true_and]
  exact k
theorem zabs (m : Mk4 d sl) (k : F.nx (stDd x d sl) G) : zhh F (stDd x d sl) G := by
  simp_arith only [zhh, stDd, zcx]
  refine ⟨d, rfl, rfl, m.ok.aim, ?_⟩
  simp_arith only [true_and]
  exact k
theorem zabv (m : Mk4 d sl) (k : F.nx (stDd x d sl) G) : zhg F (stDd x d sl) G := by
  simp_arith only [zhg, stDd, zcx, eT, zfk]
  have hne : sl ≠ [] := fun e => by
    obtain ⟨p, hp⟩ := List.exists_mem_of_ne_nil _ m.ok.ne
    rw [m.mem, e] at hp
    cases hp
  have few := m.few
  refine ztb (zru (f := e2) zle sl) rfl (Nat.le_trans (zrg (B := 1) (f := e2) zlr sl) (by decide)) (show PyData.depth (py (.nd .tup [])) ≤ 64 by decide) false ⟨fun z => (by cases z), fun z => ?_⟩ ?_
  · exfalso
    have z2 : D.nd .tup (sl.map e2) = .nd .tup [] := z
    have z3 : sl.map e2 = [] := by injection z2
    exact hne (List.map_eq_nil_iff.mp z3)
  · simp_arith only [true_and]
    refine zjt (xs := sl) (f := e2) (fun _ => .bl true) (by omega) (fun R r => by simp_arith only [zd4]; exact r) (fun t ht G1 A a => ?_) fun p hp => ?_
    · simp_arith only [true_and]
      exact ⟨t, rfl, m.ok.sh t ((m.mem t).mpr ht), a⟩
    · simp_arith only [zo, zc8 hp, DO.tree]
      refine zkd (xs := sl) (b := fun _ => true) ?_
      rw [List.all_eq_true.mpr fun t ht => rfl]
      simp_arith only [true_and]
      exact k
theorem zabz (m : Mk4 d sl) (k : F.nx (stDd x d sl) G) : zhr F (stDd x d sl) G := by
  simp_arith only [zhr, stDd, zcx, eT]
  have go : ∀ (b : Bool) (Q : DVK), (b = true ↔ D.str d.kind ∈ [D.str "turn", .str "look", .str "away"]) → Q (.bl b) G → dIn false (.str d.kind) (.nd .tup [.str "turn", .str "look", .str "away"]) G Q := fun b Q hb q => by
    refine z38 (ds := [.str "turn", .str "look", .str "away"]) (.inr rfl) (z3p d) (by decide +kernel) (zxw _) b hb ?_
    simp_arith only [true_and]
    exact q
  by_cases hc : d.calm
  · refine go true _ ⟨fun _ => ?_, fun _ => rfl⟩ ?_
    · cases d with
      | step _ _ _ => exact hc.elim
      | land _ _ => exact hc.elim
      | _ => simp [Dd.kind]
    · simp_arith only [true_and]
      have e := m.calm hc
      subst e
      refine zyv (d := .nd .tup [e2 (0, 0)]) rfl rfl (by show PyData.depth (py (.nd .tup [e2 (0, 0)])) ≤ 64; decide) (by show PyData.depth (py (.nd .tup [e2 (0, 0)])) ≤ 64; decide) false ⟨fun z => (by cases z), fun z => absurd rfl z⟩ ?_
      simp_arith only [true_and]
      exact k
  · refine go false _ ⟨fun z => (by cases z), fun z => ?_⟩ ?_
    · exfalso
      cases d with
      | step f a s =>
        have : (Str.ofString "step") ∈ [Str.ofString "turn", Str.ofString "look", Str.ofString "away"] := by simpa [Dd.kind] using z
        exact absurd this (by decide +kernel)
      | land f s =>
        have : (Str.ofString "land") ∈ [Str.ofString "turn", Str.ofString "look", Str.ofString "away"] := by simpa [Dd.kind] using z
        exact absurd this (by decide +kernel)
      | turn _ _ => exact hc trivial
      | look _ _ => exact hc trivial
      | away _ => exact hc trivial
    · simp_arith only [true_and]
      exact k
end
theorem zps : ∀ ds G Q, zw ds G Q → zm6 { nx := fun _ G' => Q .non G', rt := Q } (zav zg7 ds) G := fun ds G Q h => by
  obtain ⟨x, d, sl, rfl, hG, m, q⟩ := h
  refine zabh ?_
  dsimp only [zk6, dSeq]
  refine zabn m ?_
  dsimp only [zkx, dSeq]
  refine zabs m ?_
  dsimp only [zku, dSeq]
  refine zabv m ?_
  dsimp only [zkr, dSeq]
  refine zabz m ?_
  dsimp only [zks, zlb, dSeq]
  refine zh6 (fs' := [("kind", .str d.kind)]) (fun R r => r) (fun R r => r) hG (by decide) rfl ?_
  dsimp only [zk4, zk7, dSeq]
  refine zh6 (fs' := [("kind", .str d.kind), ("fuel", .int d.fuel)]) (fun R r => r) (fun R r => r) zo (by show _ < 1000; simp) rfl ?_
  rw [zfe]
  dsimp only [zky, zkz, dSeq]
  refine zh6 (fs' := [("kind", .str d.kind), ("fuel", .int d.fuel), ("aim", d.aim)]) (fun R r => r) (fun R r => r) zo (by show _ < 1000; simp) rfl ?_
  rw [zfe]
  dsimp only [zkq, zk9, dSeq]
  refine zh6 (y := eT e2 d.sl) (fs' := zaaj d) (fun R r => r) (fun R r => ?_) zo (by show _ < 1000; simp) rfl ?_
  · simp_arith only [zte, stDd]
    refine ⟨sl.map k2, by show some (sl.map e2) = _; rw [List.map_map]; rfl, by rw [List.length_map]; exact m.few, fun k hk => ?_, fun ls nd hm p hp => ?_⟩
    · obtain ⟨p, _, rfl⟩ := List.mem_map.mp hk
      exact fun e => nomatch e
    · rw [z3x (f := e2) (g := k2) zabq z2a nd hm m.mem m.ok.srt]
      simp_arith only [zo, zc8 hp, DO.tree]
      rw [zp6 (ds := d.sl.map e2) rfl]
      exact r
  · rw [zfe]
    exact q
def zom : DRn := fun ds G Q => ∃ (f : Int) (a : Int × Int) (s sl : List (Int × Int)), ds = [.int f, e2 a, eT e2 sl] ∧ Mk4 (.step f a s) sl ∧ Q (ddD (.step f a s)) G
abbrev z0d : List Str := ["fuel", "aim", "slips"]
def z3k : DTS :=
    (dRet (dFz (zg0 CA.Deed zw (zd (dC (.str "step")) (zd (zf 0) (zd (zf 1) (zd (zf 2) dNil)))))))
theorem z46 : ∀ ds G Q, zom ds G Q → ds.length = 3 := fun ds G Q ⟨f, a, s, sl, e, _⟩ => by rw [e]; rfl
theorem z5d : ∀ ds G Q, zom ds G Q → z3k { nx := fun _ G' => Q .non G', rt := Q } (zav z0d ds) G := fun ds G Q h => by
  obtain ⟨f, a, s, sl, rfl, m, q⟩ := h
  simp_arith only [z3k, z0d, zg0]
  intro p hp
  refine ⟨p, .step f a s, sl, rfl, zo, m, ?_⟩
  rw [zfe]
  refine ⟨rfl, ?_⟩
  simp_arith only [zo, zc8 hp]
  exact q
def zoe : DRn := fun ds G Q => ∃ (f a : Int), ds = [.int f, .int a] ∧ Mk4 (.turn f a) [(0, 0)] ∧ Q (ddD (.turn f a)) G
abbrev z0u : List Str := ["fuel", "aim"]
def z3e : DTS :=
    (dRet (dFz (zg0 CA.Deed zw (zd (dC (.str "turn")) (zd (zf 0) (zd (zf 1) (zd (dTup (zd (dTup (zd (dC (.int 0)) (zd (dC (.int 0)) dNil))) dNil)) dNil)))))))
theorem z5a : ∀ ds G Q, zoe ds G Q → ds.length = 2 := fun ds G Q ⟨f, a, e, _⟩ => by rw [e]; rfl
theorem z42 : ∀ ds G Q, zoe ds G Q → z3e { nx := fun _ G' => Q .non G', rt := Q } (zav z0u ds) G := fun ds G Q h => by
  obtain ⟨f, a, rfl, m, q⟩ := h
  simp_arith only [z3e, z0u, zg0]
  intro p hp
  refine ⟨p, .turn f a, [(0, 0)], rfl, zo, m, ?_⟩
  rw [zfe]
  refine ⟨rfl, ?_⟩
  simp_arith only [zo, zc8 hp]
  exact q
def zn6 : DRn := fun ds G Q => ∃ (f a : Int), ds = [.int f, .int a] ∧ Mk4 (.look f a) [(0, 0)] ∧ Q (ddD (.look f a)) G
abbrev z0w : List Str := ["fuel", "aim"]
def z18 : DTS :=
    (dRet (dFz (zg0 CA.Deed zw (zd (dC (.str "look")) (zd (zf 0) (zd (zf 1) (zd (dTup (zd (dTup (zd (dC (.int 0)) (zd (dC (.int 0)) dNil))) dNil)) dNil)))))))
theorem z4j : ∀ ds G Q, zn6 ds G Q → ds.length = 2 := fun ds G Q ⟨f, a, e, _⟩ => by rw [e]; rfl
theorem z6a : ∀ ds G Q, zn6 ds G Q → z18 { nx := fun _ G' => Q .non G', rt := Q } (zav z0w ds) G := fun ds G Q h => by
  obtain ⟨f, a, rfl, m, q⟩ := h
  simp_arith only [z18, z0w, zg0]
  intro p hp
  refine ⟨p, .look f a, [(0, 0)], rfl, zo, m, ?_⟩
  rw [zfe]
  refine ⟨rfl, ?_⟩
  simp_arith only [zo, zc8 hp]
  exact q
def zoc : DRn := fun ds G Q => ∃ (f : Int) (s sl : List (Int × Int)), ds = [.int f, eT e2 sl] ∧ Mk4 (.land f s) sl ∧ Q (ddD (.land f s)) G
abbrev z0i : List Str := ["fuel", "slips"]
def z2j : DTS :=
    (dRet (dFz (zg0 CA.Deed zw (zd (dC (.str "land")) (zd (zf 0) (zd (dC .non) (zd (zf 1) dNil)))))))
theorem z5b : ∀ ds G Q, zoc ds G Q → ds.length = 2 := fun ds G Q ⟨f, s, sl, e, _⟩ => by rw [e]; rfl
theorem z5x : ∀ ds G Q, zoc ds G Q → z2j { nx := fun _ G' => Q .non G', rt := Q } (zav z0i ds) G := fun ds G Q h => by
  obtain ⟨f, s, sl, rfl, m, q⟩ := h
  simp_arith only [z2j, z0i, zg0]
  intro p hp
  refine ⟨p, .land f s, sl, rfl, zo, m, ?_⟩
  rw [zfe]
  refine ⟨rfl, ?_⟩
  simp_arith only [zo, zc8 hp]
  exact q
def zoh : DRn := fun ds G Q => ∃ (f : Int), ds = [.int f] ∧ Mk4 (.away f) [(0, 0)] ∧ Q (ddD (.away f)) G
abbrev z0j : List Str := ["fuel"]
def z2t : DTS :=
    (dRet (dFz (zg0 CA.Deed zw (zd (dC (.str "away")) (zd (zf 0) (zd (dC .non) (zd (dTup (zd (dTup (zd (dC (.int 0)) (zd (dC (.int 0)) dNil))) dNil)) dNil)))))))
theorem z56 : ∀ ds G Q, zoh ds G Q → ds.length = 1 := fun ds G Q ⟨f, e, _⟩ => by rw [e]; rfl
theorem z4z : ∀ ds G Q, zoh ds G Q → z2t { nx := fun _ G' => Q .non G', rt := Q } (zav z0j ds) G := fun ds G Q h => by
  obtain ⟨f, rfl, m, q⟩ := h
  simp_arith only [z2t, z0j, zg0]
  intro p hp
  refine ⟨p, .away f, [(0, 0)], rfl, zo, m, ?_⟩
  rw [zfe]
  refine ⟨rfl, ?_⟩
  simp_arith only [zo, zc8 hp]
  exact q
end M
namespace M
open PySem PySem.Spec PyProof.Rows L2 DL
variable [CA]
theorem zw2 {cs : List Addr} {C : Addr} {ns : List Str} {ds : List D} {G : DHp} {Q : DVK} (h : C ∈ cs) (q : Q (.bl true) G) : (dIsi (znj cs)) [.nd (.ins C ns) ds, .ref C] G Q := by
  show (match znj cs (.ref C) (.ref C) with | some b => Q (.bl b) G | none => False)
  unfold znj
  dsimp only
  rw [if_pos ⟨rfl, h⟩]
  exact q
theorem z97 {a b : List Pt} : eT e3 a = eT e3 b ↔ a = b := z9o zaap
def zar : DRn := d2 fun a b G Q => ∃ cs cs' : List Pt, a = gD cs ∧ b = gD cs' ∧ Q (.bl (decide (cs = cs'))) G
abbrev zgo : List Str := ["self", "other"]
def zjl : DTS :=
    (dRet (zk1 (dCB (dIsi isT) (zd (zf 1) (zd (dC (.ref CA.Ground)) dNil))) (dOp dEq (dFld CA.Ground "craters" (zf 0)) (dFld CA.Ground "craters" (zf 1)))))
theorem zp4 : ∀ ds G Q, zar ds G Q → ds.length = 2 := fun ds G Q h => by
  match ds, h with
  | [_, _], _ => rfl
theorem zpl : ∀ ds G Q, zar ds G Q → zjl { nx := fun _ G' => Q .non G', rt := Q } (zav zgo ds) G := fun ds G Q h => by
  match ds, h with
  | [_, _], ⟨cs, cs', rfl, rfl, q⟩ =>
    simp_arith only [zjl, zgo]
    refine zw2 (by simp) ?_
    simp_arith only [dFld, zi0]
    refine ztb (zru (f := e3) zwv cs) (zru (f := e3) zwv cs') (Nat.le_trans (zrg (B := 1) (f := e3) zrl cs) (by decide)) (Nat.le_trans (zrg (B := 1) (f := e3) zrl cs') (by decide)) (decide (cs = cs')) ?_ q
    rw [decide_eq_true_eq]
    exact z97.symm
def znf : D → Prop := fun d => ∃ cs, d = gD cs
theorem z13 {d : D} {G : DHp} {Q : DVK} (p : znf d) (q : Q (.bl true) G) : zar [d, d] G Q := by
  obtain ⟨cs, rfl⟩ := p
  exact ⟨cs, cs, rfl, rfl, by rw [decide_eq_true rfl]; exact q⟩
theorem zy3 {d : D} (p : znf d) : ∃ fs ds, d = .nd (.ins CA.Ground fs) ds := by
  obtain ⟨cs, rfl⟩ := p
  exact ⟨_, _, rfl⟩
structure Cr where
  cs : List Pt
  tu : List Int
  ar : Int × Int × Int × Int
  cams : List Cam
  foot : Int × Int
  room : Int
  deeds : List Dd
def Cr.sk (c : Cr) (cam : Cam) : Sk := ⟨c.cs, cam, c.tu, c.ar⟩
def Cr.skies (c : Cr) : D := .nd .tup (c.cams.map fun cam => sD (c.sk cam))
def crD (c : Cr) : D := .nd (.ins CA.Craft ["skies", "foot", "room", "deeds"]) [c.skies, e2 c.foot, .int c.room, eT ddD c.deeds]
structure OkCr (c : Cr) : Prop where
  ne : c.cams ≠ []
  cl : c.cams.length ≤ 100
  foot : okSh c.foot
  room : 0 ≤ c.room ∧ c.room ≤ 1000
  dl : c.deeds.length ≤ 1000
  dd : ∀ d ∈ c.deeds, OkDd d
  look : ∀ f a, Dd.look f a ∈ c.deeds → a < c.cams.length
section
variable {G : DHp}
theorem zna {c : Cr} : fldD CA.Craft "skies" (crD c) G = some c.skies := by unfold crD; rw [zlx]; rfl
theorem z3f {c : Cr} : fldD CA.Craft "foot" (crD c) G = some (e2 c.foot) := by unfold crD; rw [zlx]; rfl
theorem zzu {c : Cr} : fldD CA.Craft "room" (crD c) G = some (.int c.room) := by unfold crD; rw [zlx]; rfl
end
def zbw : DRn := fun ds G Q => ∃ c : Cr, ds = [c.skies] ∧ c.cams ≠ [] ∧ c.cams.length ≤ 100 ∧ Q (.bl true) G
abbrev zd3 : List Str := ["skies", "first", "one"]
def zhf : DTS :=
    (dSeq (dAsg (dOp dIx (zf 0) (dC (.int 0))) (zn 1))
    (dRet (dCB dAll (zd (dFz (dLc (zd4 (zf 0)) (zn 2) dYes (dOp (zaab znf 2) (dTup (zd (dFld CA.Sky "ground" (zf 2)) (zd (dFld CA.Sky "turns" (zf 2)) (zd (dFld CA.Sky "area" (zf 2)) dNil)))) (dTup (zd (dFld CA.Sky "ground" (zf 1)) (zd (dFld CA.Sky "turns" (zf 1)) (zd (dFld CA.Sky "area" (zf 1)) dNil))))) [2])) dNil))))
theorem znw : ∀ ds G Q, zbw ds G Q → ds.length = 1 := fun ds G Q ⟨c, e, _⟩ => by rw [e]; rfl
theorem z2b (xs : List Int) : SmT znf 2 (eT .int xs) := .inr (.inl ⟨_, rfl, fun e he => by
  obtain ⟨i, _, rfl⟩ := List.mem_map.mp he
  exact .inl (.inr (.inl ⟨i, rfl⟩))⟩)
theorem zabc (a : Int × Int × Int × Int) : SmT znf 2 (e4 a) := z2b [a.1, a.2.1, a.2.2.1, a.2.2.2]
theorem zoo : ∀ ds G Q, zbw ds G Q → zhf { nx := fun _ G' => Q .non G', rt := Q } (zav zd3 ds) G := fun ds G Q h => by
  obtain ⟨c, rfl, hne, hl, q⟩ := h
  simp_arith only [zhf, zd3, Cr.skies]
  obtain ⟨c0, l, hc⟩ : ∃ c0 l, c.cams = c0 :: l := by
    cases e : c.cams with
    | nil => exact absurd e hne
    | cons a l => exact ⟨a, l, rfl⟩
  refine ztl (d := sD (c.sk c0)) (by decide) (by rw [hc]; rfl) ?_
  refine zjt (xs := c.cams) (f := fun cam => sD (c.sk cam)) (fun _ => .bl true) (by omega) (fun R r => by simp_arith only [zd4]; exact r) (fun t ht G1 A a => ?_) fun p hp => ?_
  · simp_arith only [dFld, zxf, z0x, zzb]
    refine ⟨⟨_, rfl, rfl, fun e he => ?_⟩, a⟩
    simp only [List.mem_cons, List.not_mem_nil, or_false] at he
    rcases he with rfl | rfl | rfl
    · exact .inr (.inr ⟨_, rfl⟩)
    · exact z2b _
    · exact zabc _
  · simp_arith only [zo, zc8 hp, DO.tree]
    refine zkd (xs := c.cams) (b := fun _ => true) ?_
    rw [List.all_eq_true.mpr fun t ht => rfl]
    exact q
def z6k (c : Cr) : List (Str × D) := [("skies", c.skies), ("foot", e2 c.foot), ("room", .int c.room), ("deeds", eT ddD c.deeds)]
def zca : DRn := fun ds G Q => ∃ (x : Addr) (c : Cr), ds = [.ref x, c.skies, e2 c.foot, .int c.room, eT ddD c.deeds] ∧ G x = some (.ins CA.Craft []) ∧ OkCr c ∧ Q .non (up G x (.ins CA.Craft (z6k c)))
abbrev zdb : List Str := ["self", "skies", "foot", "room", "deeds", "one"]
def zgr : DTS :=
    (dIfS (dOr (dNot (zan (dCB (dIsi isT) (zd (zf 1) (zd (dC (.ty "tuple")) dNil))))) (dOr (zan (dOp (dEmp false) (zf 1) (dTup dNil))) (dNot (zan (dCB dAll (zd (dFz (dLc (zd4 (zf 1)) (zn 5) dYes (dCB (dIsi isT) (zd (zf 5) (zd (dC (.ref CA.Sky)) dNil))) [5])) dNil))))))
    zcx
    zck)
def zgx : DTS :=
    (dIfS (dNot (zan (dCB zbw (zd (zf 1) dNil))))
    zcx
    zck)
def zg4 : DTS :=
    (dIfS (dNot (zan (dCB zb8 (zd (zf 2) dNil))))
    zcx
    zck)
def zg5 : DTS :=
    (dIfS (dNot (zan (dCB zy (zd (zf 3) (zd (dC (.int 0)) (zd (dC (.int 1000)) dNil))))))
    zcx
    zck)
def zgt : DTS :=
    (dIfS (dOr (dNot (zan (dCB (dIsi isT) (zd (zf 4) (zd (dC (.ty "tuple")) dNil))))) (dNot (zan (dCB dAll (zd (dFz (dLc (zd4 (zf 4)) (zn 5) dYes (dCB (dIsi isT) (zd (zf 5) (zd (dC (.ref CA.Deed)) dNil))) [5])) dNil)))))
    zcx
    zck)
def zgp : DTS :=
    (dIfS (zan (dCB dAny (zd (dFz (dLc (zd4 (zf 4)) (zn 5) dYes (zk1 (dOp dEq (dFld CA.Deed "kind" (zf 5)) (dC (.str "look"))) (dOp dGe (dFld CA.Deed "aim" (zf 5)) (dCB dLen (zd (zf 1) dNil)))) [5])) dNil)))
    zcx
    zck)
def zj3 : DTS :=
    (zka CA.Craft "skies" (zf 0) (zf 1))
def zjp : DTS :=
    (zka CA.Craft "foot" (zf 0) (zf 2))
def zj0 : DTS :=
    (zka CA.Craft "room" (zf 0) (zf 3))
def zjn : DTS :=
    (zka CA.Craft "deeds" (zf 0) (zf 4))
def zjx : DTS :=
    zjn
def zjw : DTS :=
    (dSeq zj0 zjx)
def zjq : DTS :=
    (dSeq zjp zjw)
def zjy : DTS :=
    (dSeq zj3 zjq)
def zju : DTS :=
    (dSeq zgp zjy)
def zj6 : DTS :=
    (dSeq zgt zju)
def zj5 : DTS :=
    (dSeq zg5 zj6)
def zj1 : DTS :=
    (dSeq zg4 zj5)
def zj9 : DTS :=
    (dSeq zgx zj1)
def zl0 : DTS :=
    (dSeq zgr zj9)
theorem zpi : ∀ ds G Q, zca ds G Q → ds.length = 5 := fun ds G Q ⟨x, c, e, _⟩ => by rw [e]; rfl
def stCr (x : Addr) (c : Cr) : DSt := [some (.ref x), some c.skies, some (e2 c.foot), some (.int c.room), some (eT ddD c.deeds), none]
section
variable {F : zh5} {x : Addr} {c : Cr} {G : DHp}
theorem zaa9 (ok : OkCr c) (k : F.nx (stCr x c) G) : zgr F (stCr x c) G := by
  have cl := ok.cl
  simp_arith only [zgr, stCr, zcx, Cr.skies, zfk]
  show (dEmp false (.nd .tup (c.cams.map fun cam => sD (c.sk cam))) (.nd .tup []) G _)
  unfold dEmp
  dsimp only
  have he : (c.cams.map fun cam => sD (c.sk cam)).isEmpty = false := by
    cases e : c.cams with
    | nil => exact absurd e ok.ne
    | cons a l => rfl
  rw [he]
  simp_arith only [true_and]
  refine zjt (xs := c.cams) (f := fun cam => sD (c.sk cam)) (fun _ => .bl true) (by omega) (fun R r => by simp_arith only [zd4]; exact r) (fun t ht G1 A a => ?_) fun p hp => ?_
  · simp_arith only [true_and]
    exact zw2 (by simp) a
  · simp_arith only [zo, zc8 hp, DO.tree]
    refine zkd (xs := c.cams) (b := fun _ => true) ?_
    rw [List.all_eq_true.mpr fun t ht => rfl]
    simp_arith only [true_and]
    exact k
theorem zaa1 (ok : OkCr c) (k : F.nx (stCr x c) G) : zgx F (stCr x c) G := by
  simp_arith only [zgx, stCr, zcx]
  refine ⟨c, rfl, ok.ne, ok.cl, ?_⟩
  simp_arith only [true_and]
  exact k
theorem zabo (ok : OkCr c) (k : F.nx (stCr x c) G) : zg4 F (stCr x c) G := by
  simp_arith only [zg4, stCr, zcx]
  refine ⟨c.foot, rfl, ok.foot, ?_⟩
  simp_arith only [true_and]
  exact k
theorem zaa7 (ok : OkCr c) (k : F.nx (stCr x c) G) : zg5 F (stCr x c) G := by
  simp_arith only [zg5, stCr, zcx]
  refine .inl ⟨c.room, 0, 1000, rfl, rfl, rfl, ?_⟩
  rw [decide_eq_true ok.room]
  simp_arith only [true_and]
  exact k
theorem zabe (ok : OkCr c) (k : F.nx (stCr x c) G) : zgt F (stCr x c) G := by
  have hl := ok.dl
  simp_arith only [zgt, stCr, zcx, eT, zfk]
  refine zjt (xs := c.deeds) (f := ddD) (fun _ => .bl true) (by omega) (fun R r => by simp_arith only [zd4]; exact r) (fun t ht G1 A a => ?_) fun p hp => ?_
  · simp_arith only [true_and]
    exact zw2 (by simp) a
  · simp_arith only [zo, zc8 hp, DO.tree]
    refine zkd (xs := c.deeds) (b := fun _ => true) ?_
    rw [List.all_eq_true.mpr fun t ht => rfl]
    simp_arith only [true_and]
    exact k
theorem zabb (ok : OkCr c) (k : F.nx (stCr x c) G) : zgp F (stCr x c) G := by
  have hl := ok.dl
  simp_arith only [zgp, stCr, zcx, eT]
  refine zjt (xs := c.deeds) (f := ddD) (fun _ => .bl false) (by omega) (fun R r => by simp_arith only [zd4]; exact r) (fun t ht G1 A a => ?_) fun p hp => ?_
  · simp_arith only [dFld, z69]
    cases t with
    | look f n =>
      refine zfi zhq zhq true (show (("look" : Str) == "look") = true by decide +kernel) ?_
      simp_arith only [z81, Dd.aim, Cr.skies]
      rw [zw6]
      have := ok.look f n ht
      simp_arith only [List.length_map]
      rw [decide_eq_false (by omega)]
      exact a
    | step f n s =>
      refine zfi zm7 zhq false (show (("step" : Str) == "look") = false by decide +kernel) ?_
      simp_arith only [true_and]
      exact a
    | turn f n =>
      refine zfi zmt zhq false (show (("turn" : Str) == "look") = false by decide +kernel) ?_
      simp_arith only [true_and]
      exact a
    | land f s =>
      refine zfi zsd zhq false (show (("land" : Str) == "look") = false by decide +kernel) ?_
      simp_arith only [true_and]
      exact a
    | away f =>
      refine zfi ztc zhq false (show (("away" : Str) == "look") = false by decide +kernel) ?_
      simp_arith only [true_and]
      exact a
  · simp_arith only [zo, zc8 hp, DO.tree]
    refine z8o (xs := c.deeds) (b := fun _ => false) ?_
    rw [show (c.deeds.any fun _ => false) = false by rw [List.any_eq_false]; intro x _; exact Bool.false_ne_true]
    simp_arith only [true_and]
    exact k
end
theorem zpg : ∀ ds G Q, zca ds G Q → zl0 { nx := fun _ G' => Q .non G', rt := Q } (zav zdb ds) G := fun ds G Q h => by
  obtain ⟨x, c, rfl, hG, ok, q⟩ := h
  refine zaa9 ok ?_
  dsimp only [zj9, dSeq]
  refine zaa1 ok ?_
  dsimp only [zj1, dSeq]
  refine zabo ok ?_
  dsimp only [zj5, dSeq]
  refine zaa7 ok ?_
  dsimp only [zj6, dSeq]
  refine zabe ok ?_
  dsimp only [zju, dSeq]
  refine zabb ok ?_
  dsimp only [zjy, zj3, dSeq]
  refine zh6 (fs' := [("skies", c.skies)]) (fun R r => r) (fun R r => r) hG (by decide) rfl ?_
  dsimp only [zjq, zjp, dSeq]
  refine zh6 (fs' := [("skies", c.skies), ("foot", e2 c.foot)]) (fun R r => r) (fun R r => r) zo (by show _ < 1000; simp) rfl ?_
  rw [zfe]
  dsimp only [zjw, zj0, dSeq]
  refine zh6 (fs' := [("skies", c.skies), ("foot", e2 c.foot), ("room", .int c.room)]) (fun R r => r) (fun R r => r) zo (by show _ < 1000; simp) rfl ?_
  rw [zfe]
  dsimp only [zjx, zjn, dSeq]
  refine zh6 (fs' := z6k c) (fun R r => r) (fun R r => r) zo (by show _ < 1000; simp) rfl ?_
  rw [zfe]
  exact q
end M
namespace M
open PySem PySem.Spec PyProof.Rows L2 DL
variable [CA]
def zsb {α : Type} [DecidableEq α] : List α → List α
  | [] => []
  | x :: xs => if x ∈ zsb xs then zsb xs else x :: zsb xs
theorem zrt {α : Type} [DecidableEq α] {a : α} : ∀ {xs : List α}, a ∈ zsb xs ↔ a ∈ xs
  | [] => Iff.rfl
  | x :: xs => by
    have ih := zrt (a := a) (xs := xs)
    have ih2 := zrt (a := x) (xs := xs)
    unfold zsb
    by_cases h : x ∈ zsb xs
    · rw [if_pos h, ih, List.mem_cons]
      exact ⟨.inr, fun z => z.elim (fun e => by rw [e]; exact ih2.mp h) id⟩
    · rw [if_neg h, List.mem_cons, List.mem_cons, ih]
theorem zng {α : Type} [DecidableEq α] : ∀ xs : List α, (zsb xs).Nodup
  | [] => List.nodup_nil
  | x :: xs => by
    unfold zsb
    by_cases h : x ∈ zsb xs
    · rw [if_pos h]; exact zng xs
    · rw [if_neg h, List.nodup_cons]; exact ⟨h, zng xs⟩
/-- sorted(set(xs)) -/
def setT {α : Type} [DecidableEq α] (f : α → D) (xs : List α) : List α := srtT f (zsb xs)
section
variable {α : Type} [DecidableEq α] {f : α → D} {g : α → List Int}
theorem zwe {a : α} {xs : List α} : a ∈ setT f xs ↔ a ∈ xs := (zg8 f _).mem_iff.trans zrt
theorem zaba {a b : List Int} (h : a ≤ b) (n : a ≠ b) : a < b := Classical.byContradiction fun z => n (List.le_antisymm h z)
theorem zu7 (hf : ∀ a b, PySem.W.dataLe false py (f a) (f b) = decide (g a ≤ g b)) (gi : ∀ a b, g a = g b → a = b) (xs : List α) : (setT f xs).Pairwise fun a b => g a < g b := by
  have h1 : (setT f xs).Pairwise fun a b => g a ≤ g b := by
    have tr : ∀ a b c : α, PySem.W.dataLe false py (f a) (f b) = true → PySem.W.dataLe false py (f b) (f c) = true → PySem.W.dataLe false py (f a) (f c) = true := fun a b c h1 h2 => by
      rw [hf, decide_eq_true_eq] at *
      exact List.le_trans h1 h2
    have tot : ∀ a b : α, (PySem.W.dataLe false py (f a) (f b) || PySem.W.dataLe false py (f b) (f a)) = true := fun a b => by
      rw [hf, hf, Bool.or_eq_true, decide_eq_true_eq, decide_eq_true_eq]
      exact List.le_total _ _
    exact (List.pairwise_mergeSort tr tot (zsb xs)).imp fun h => by rw [hf, decide_eq_true_eq] at h; exact h
  have h2 : (setT f xs).Nodup := (zg8 f _).nodup_iff.mpr (zng xs)
  exact (h1.and h2).imp fun ⟨a, b⟩ => zaba a fun e => b (gi _ _ e)
end
def k3 (p : Pt) : List Int := [p.1, p.2.1, p.2.2]
theorem z07 (a b : Pt) (h : k3 a = k3 b) : a = b := by
  unfold k3 at h
  simp only [List.cons.injEq, and_true] at h
  exact Prod.ext h.1 (Prod.ext h.2.1 h.2.2)
theorem zaa5 (p : Pt) : e3 p = eR (k3 p) := rfl
/-- sorted(set(..)) of rows of three -/
theorem sq3 {xs : List Pt} {G : DHp} : sqD (eL e3 xs) G = some ((xs.map k3).map eR) := by show some (xs.map e3) = _; rw [List.map_map]; rfl
theorem ne3 {xs : List Pt} : ∀ k ∈ xs.map k3, k ≠ [] := fun k hk => by
  obtain ⟨p, _, rfl⟩ := List.mem_map.mp hk
  exact fun e => nomatch e
theorem z4n {xs : List Pt} {ls : List (List Int)} (nd : ls.Nodup) (hm : ∀ k, k ∈ ls ↔ k ∈ xs.map k3) : srt (ls.map eR) = (setT e3 xs).map e3 :=
  z3x (f := e3) (g := k3) (ys := setT e3 xs) zaa5 z07 nd hm (fun a => zwe) (zu7 (g := k3) (fun a b => z8n a b) z07 xs)
theorem z6j {wi : DTI} {g : DTG} {te : DTE} {own : List Nat} {η : DSt} {Q : DVK} {α β : Type} {xs : List α} {f : α → D} {G0 : DHp} {a : Addr} {ns : List Int} {c : Int} (h : β → D) (Pr : α → β → Prop) (hl : xs.length ≤ 1000000)
    (hw : ∀ R, R (xs.map f) zcm (Gw G0 a ns c) → wi η (Gw G0 a ns c) R)
    (hb : ∀ x ∈ xs, ∀ (G1 : DHp) (c1 : Int) (A : DVK), (∀ y c2, Pr x y → A (h y) (Gw G1 a ns c2)) → g (f x) (zkn η own) (Gw G1 a ns c1) fun η2 G2 => te η2 G2 A)
    (q : ∀ ys : List β, ys.length = xs.length → (∀ y ∈ ys, ∃ x ∈ xs, Pr x y) → ∀ c' p, Gw G0 a ns c' p = none → Q (.ref p) (up (Gw G0 a ns c') p (.lst (ys.map h)))) : dLc wi g dYes te own η (Gw G0 a ns c) Q := by
  refine hw _ ?_
  intro p hp
  obtain ⟨e, hap⟩ := zos (o := .lst []) hp
  refine ⟨fun i acc G' => ∃ (ys : List β) (c' : Int), ys.length = i ∧ i ≤ xs.length ∧ (∀ y ∈ ys, ∃ x ∈ xs, Pr x y) ∧ acc = ys.map h ∧ G' = Gw (up G0 p (.lst acc)) a ns c', ⟨[], c, rfl, Nat.zero_le _, (by simp), rfl, e⟩, ?_, ?_, ?_⟩
  · rintro i acc G' ⟨ys, c', hi, hle, hs, rfl, rfl⟩
    exact ⟨trivial, zig hap⟩
  · rintro i d acc G' hd ⟨ys, c', hi, hle, hs, rfl, rfl⟩
    obtain ⟨x, hx, rfl⟩ := zcq hd
    have hlt := (List.getElem?_eq_some_iff.mp hx).1
    refine hb x (List.mem_of_getElem? hx) (up G0 p (.lst (ys.map h))) c' _ (fun y c2 pr => ⟨zb0 ?_, zig hap, ys ++ [y], c2, by rw [List.length_append, List.length_singleton, hi], hlt, ?_, by rw [List.map_append]; rfl, zx0 hap⟩)
    · rw [List.length_map]
      omega
    · intro z hz
      rcases List.mem_append.mp hz with hz | hz
      · exact hs z hz
      · rw [List.mem_singleton] at hz; subst hz; exact ⟨x, List.mem_of_getElem? hx, pr⟩
  · rintro acc G' ⟨ys, c', hi, hle, hs, rfl, rfl⟩
    have hn : Gw G0 a ns c' p = none := by
      have := zlc hap hp
      show up G0 a _ p = none
      rw [zq8 (Ne.symm hap)]
      exact this
    have e2 : Gw (up G0 p (.lst (ys.map h))) a ns c' = up (Gw G0 a ns c') p (.lst (ys.map h)) := by
      show up (up G0 p _) a _ = up (up G0 a _) p _
      exact zol (Ne.symm hap)
    rw [e2]
    rw [List.length_map] at hi
    exact q ys hi hs c' p hn
theorem zaal {wi : DTI} {g : DTG} {te : DTE} {own : List Nat} {η : DSt} {Q : DVK} {α β : Type} {f : α → D} {G0 : DHp} {a : Addr} {ns : List Int} {c : Int} (h : β → D) (Pr : α → β → Prop) (Ok : List α → Prop) (hl : ∀ xs, Ok xs → xs.length ≤ 1000000)
    (hw : ∀ R, (∀ xs c1, Ok xs → R (xs.map f) zcm (Gw G0 a ns c1)) → wi η (Gw G0 a ns c) R)
    (hb : ∀ xs, Ok xs → ∀ x ∈ xs, ∀ (G1 : DHp) (c1 : Int) (A : DVK), (∀ y c2, Pr x y → A (h y) (Gw G1 a ns c2)) → g (f x) (zkn η own) (Gw G1 a ns c1) fun η2 G2 => te η2 G2 A)
    (q : ∀ xs, Ok xs → ∀ ys : List β, ys.length = xs.length → (∀ y ∈ ys, ∃ x ∈ xs, Pr x y) → ∀ c' p, Gw G0 a ns c' p = none → Q (.ref p) (up (Gw G0 a ns c') p (.lst (ys.map h)))) : dLc wi g dYes te own η (Gw G0 a ns c) Q := by
  refine hw _ fun xs c0 okx => ?_
  intro p hp
  have hl := hl xs okx
  obtain ⟨e, hap⟩ := zos (o := .lst []) hp
  refine ⟨fun i acc G' => ∃ (ys : List β) (c' : Int), ys.length = i ∧ i ≤ xs.length ∧ (∀ y ∈ ys, ∃ x ∈ xs, Pr x y) ∧ acc = ys.map h ∧ G' = Gw (up G0 p (.lst acc)) a ns c', ⟨[], c0, rfl, Nat.zero_le _, (by simp), rfl, e⟩, ?_, ?_, ?_⟩
  · rintro i acc G' ⟨ys, c', hi, hle, hs, rfl, rfl⟩
    exact ⟨trivial, zig hap⟩
  · rintro i d acc G' hd ⟨ys, c', hi, hle, hs, rfl, rfl⟩
    obtain ⟨x, hx, rfl⟩ := zcq hd
    have hlt := (List.getElem?_eq_some_iff.mp hx).1
    refine hb xs okx x (List.mem_of_getElem? hx) (up G0 p (.lst (ys.map h))) c' _ (fun y c2 pr => ⟨zb0 ?_, zig hap, ys ++ [y], c2, by rw [List.length_append, List.length_singleton, hi], hlt, ?_, by rw [List.map_append]; rfl, zx0 hap⟩)
    · rw [List.length_map]
      omega
    · intro z hz
      rcases List.mem_append.mp hz with hz | hz
      · exact hs z hz
      · rw [List.mem_singleton] at hz; subst hz; exact ⟨x, List.mem_of_getElem? hx, pr⟩
  · rintro acc G' ⟨ys, c', hi, hle, hs, rfl, rfl⟩
    have hn : Gw G0 a ns c' p = none := by
      have := zlc hap hp
      show up G0 a _ p = none
      rw [zq8 (Ne.symm hap)]
      exact this
    have e2 : Gw (up G0 p (.lst (ys.map h))) a ns c' = up (Gw G0 a ns c') p (.lst (ys.map h)) := by
      show up (up G0 p _) a _ = up (up G0 a _) p _
      exact zol (Ne.symm hap)
    rw [e2]
    rw [List.length_map] at hi
    exact q xs okx ys hi hs c' p hn
theorem zx8 {α : Type} {f : α → D} {xs : List α} {p : Addr} {i : Int} {G : DHp} {Q : DVK} (h : G p = some (.lst (xs.map f))) (h0 : 0 ≤ i) (h1 : i < xs.length) (q : ∀ x ∈ xs, (∀ y ∈ xs, y = x ∨ y ∈ xs.eraseIdx i.toNat) → Q (f x) (up G p (.lst ((xs.eraseIdx i.toNat).map f)))) : tyD "list" (.ref p) G ∧ zxg [.ref p, .int i] G Q := by
  have hi : i.toNat < xs.length := by omega
  have e : ixN (xs.map f).length i = some i.toNat := by
    rw [List.length_map]
    unfold ixN
    rw [if_pos (by omega), if_pos (by omega)]
  have e2 : (xs.map f)[i.toNat]? = some (f xs[i.toNat]) := by rw [List.getElem?_map, List.getElem?_eq_getElem hi]; rfl
  refine ⟨by simp only [tyD, h], ?_⟩
  simp only [zxg, d2, onL, h, e, e2]
  have hor : ∀ (l : List α) (k : Nat) (hk : k < l.length) (y : α), y ∈ l → y = l[k] ∨ y ∈ l.eraseIdx k := fun l => by
    induction l with
    | nil => intro k hk; exact absurd hk (Nat.not_lt_zero _)
    | cons a l ih => intro k hk y hy; cases k with
      | zero =>
        rcases List.mem_cons.mp hy with e | e
        · exact .inl e
        · exact .inr e
      | succ k =>
        rcases List.mem_cons.mp hy with e | e
        · exact .inr (by rw [List.eraseIdx_cons_succ, e]; simp)
        · rcases ih k (by simpa using hk) y e with h | h
          · exact .inl h
          · exact .inr (by rw [List.eraseIdx_cons_succ]; exact List.mem_cons_of_mem _ h)
  have := q xs[i.toNat] (List.getElem_mem hi) (hor xs _ hi)
  have em : ∀ (l : List α) (k : Nat), (l.eraseIdx k).map f = (l.map f).eraseIdx k := fun l => by
    induction l with
    | nil => intro k; rfl
    | cons a l ih => intro k; cases k with
      | zero => rfl
      | succ k => rw [List.eraseIdx_cons_succ, List.map_cons, List.map_cons, List.eraseIdx_cons_succ, ih]
  rw [em] at this
  exact this
end M
namespace M
open PySem PySem.Spec PyProof.Rows L2 DL
variable [CA]
theorem cdiv {i j : Int} (h : 0 < j ∧ j < 1073741824) : CDiv i j := h
structure DrG (cs : List Pt) : Prop where
  ne : cs ≠ []
  len : cs.length ≤ 3
  bd : ∀ p ∈ cs, (-2 ≤ p.1 ∧ p.1 ≤ 2) ∧ (-2 ≤ p.2.1 ∧ p.2.1 ≤ 2) ∧ 1 ≤ p.2.2 ∧ p.2.2 ≤ 2
  srt : cs.Pairwise fun a b => k3 a < k3 b
theorem z8h {α : Type} [DecidableEq α] {f : α → D} (xs : List α) : (setT f xs).length ≤ xs.length := by
  unfold setT
  rw [(zg8 f _).length_eq]
  exact z3o (zng xs) fun y hy => zrt.mp hy
theorem zs0 (xs : List Pt) : (setT e3 xs).Pairwise fun a b => k3 a < k3 b := zu7 (g := k3) (fun a b => z8n a b) z07 xs
theorem z7d {cs : List Pt} (h : cs.Pairwise fun a b => k3 a < k3 b) : srtT e3 cs = cs := z2u (g := k3) (fun a b => z8n a b) (h.imp fun h => List.le_of_lt h)
def zdy : DRn := fun l G Q => ∃ (a : Addr) (ns : List Int) (c : Int) (G0 : DHp), l = [.ref a] ∧ G = Gw G0 a ns c ∧ ns.length ≤ 63 ∧ ∀ cs c', DrG cs → Q (gD cs) (Gw G0 a ns c')
abbrev zim : List Str := ["draw", "rows", "number"]
def zln : DTS :=
    (dSeq (dAsg (zk8 dNil) (zn 1))
    (dSeq (dFor (ze8 (zd (dOp dAdd (dC (.int 1)) (dOp zpn (dCB zi (zd (zf 0) (zd (dC (.int 5)) dNil))) (dC (.int 2)))) dNil)) (zn 2)
    (zib (dM "list" zf9 (zf 1) (zd (dTup (zd (dOp dSub (dCB zi (zd (zf 0) (zd (dC (.int 5)) dNil))) (dC (.int 2))) (zd (dOp dSub (dCB zi (zd (zf 0) (zd (dC (.int 5)) dNil))) (dC (.int 2))) (zd (dOp dAdd (dC (.int 1)) (dOp zpn (dCB zi (zd (zf 0) (zd (dC (.int 8)) dNil))) (dC (.int 7)))) dNil)))) dNil))))
    (dFrz 1 (dRet (dFz (zg0 CA.Ground z4 (zd (dFz (zte (zf 1))) dNil)))))))
theorem zsp : ∀ ds G Q, zdy ds G Q → ds.length = 1 := fun ds G Q ⟨_, _, _, _, e, _⟩ => by rw [e]; rfl
theorem zr4 : ∀ ds G Q, zdy ds G Q → zln { nx := fun _ G' => Q .non G', rt := Q } (zav zim ds) G := fun l G Q h => by
  obtain ⟨a, ns, c, G0, rfl, rfl, hl, q⟩ := h
  simp_arith only [zln, zim]
  intro p hp
  obtain ⟨e, hap⟩ := zos (o := .lst []) hp
  have hgp := zlc hap hp
  rw [e]
  simp_arith only [dFor, ze8]
  refine zbm (by omega) hl fun n n0 n1 => ⟨cdiv (by decide), ⟨by omega, by omega⟩, ?_⟩
  refine ⟨fun i η G' => ∃ o1 cs c', η = [some (.ref a), some (.ref p), o1] ∧ G' = Gw (up G0 p (.lst (cs.map e3))) a ns c' ∧ cs.length = i ∧ ∀ p ∈ cs, (-2 ≤ p.1 ∧ p.1 ≤ 2) ∧ (-2 ≤ p.2.1 ∧ p.2.1 ≤ 2) ∧ 1 ≤ p.2.2 ∧ p.2.2 ≤ 2, ⟨none, [], _, rfl, rfl, rfl, by simp⟩, fun _ _ _ _ => trivial, ?_, ?_⟩
  · rintro i d η G' hd ⟨o1, cs, c', rfl, rfl, hc, bd⟩
    obtain ⟨z, hz, rfl⟩ := zcq hd
    have hi := (List.getElem?_eq_some_iff.mp hz).1
    rw [za1] at hi
    simp_arith only [true_and]
    refine ⟨by simp only [tyD, zig hap], ?_⟩
    refine zbm (by decide) hl fun x x0 x1 => ?_
    simp_arith only [true_and]
    refine zbm (by decide) hl fun y y0 y1 => ?_
    simp_arith only [true_and]
    refine zbm (by decide) hl fun w w0 w1 => ⟨cdiv (by decide), ?_⟩
    refine (zll (y := e3 (x - 2, y - 2, 1 + w / 7)) (zig hap) (zb0 (by rw [List.length_map]; omega)) ?_).2
    rw [zx0 hap]
    refine ⟨_, (by repeat (first | exact Le.nil | apply Le.keep | apply Le.drop)), _, cs ++ [(x - 2, y - 2, 1 + w / 7)], _, rfl, by rw [List.map_append]; rfl, by rw [List.length_append, List.length_singleton]; omega, ?_⟩
    intro u hu
    rcases List.mem_append.mp hu with hu | hu
    · exact bd u hu
    · rw [List.mem_singleton] at hu
      subst hu
      exact ⟨⟨by dsimp only; omega, by dsimp only; omega⟩, ⟨by dsimp only; omega, by dsimp only; omega⟩, by dsimp only; omega, by dsimp only; omega⟩
  · rintro η G' ⟨o1, cs, c', rfl, rfl, hc, bd⟩
    rw [List.length_map, za1] at hc
    simp_arith only [zig hap, z16 hap hgp, zg0, zte, DO.tree]
    refine ⟨cs.map k3, sq3, by rw [List.length_map]; omega, ne3, fun ls nd hm p hp => ?_⟩
    rw [z4n nd hm]
    simp_arith only [zo, zc8 hp, DO.tree]
    have sl := z8h (f := e3) cs
    intro x hx
    refine ⟨x, setT e3 cs, rfl, rfl, zo, by omega, fun p hp => ?_, ?_⟩
    · obtain ⟨b1, b2, b3⟩ := bd p (zwe.mp hp)
      exact ⟨⟨by omega, by omega⟩, ⟨by omega, by omega⟩, by omega, by omega⟩
    · rw [zfe, z7d (zs0 cs)]
      refine ⟨rfl, ?_⟩
      simp_arith only [zo, zc8 hx]
      refine q (setT e3 cs) c' ⟨fun e => ?_, by omega, fun p hp => bd p (zwe.mp hp), zs0 cs⟩
      cases cs with
      | nil => rw [List.length_nil] at hc; omega
      | cons u l =>
        have : u ∈ setT e3 (u :: l) := zwe.mpr (by simp)
        rw [e] at this
        cases this
structure z17 (cam : Cam) : Prop where
  w : 1 ≤ cam.w ∧ cam.w ≤ 3
  h : 1 ≤ cam.h ∧ cam.h ≤ 3
  er : 0 ≤ cam.er ∧ cam.er ≤ 1
  fa : 0 ≤ cam.fa ∧ cam.fa ≤ 1
  lo : 0 ≤ cam.lo ∧ cam.lo ≤ 1
def zd0 : DRn := fun l G Q => ∃ (a : Addr) (ns : List Int) (c : Int) (G0 : DHp) (cs : List Pt), l = [.ref a, gD cs] ∧ G = Gw G0 a ns c ∧ ns.length ≤ 63 ∧ ∀ cam c', z17 cam → Q (cD cam) (Gw G0 a ns c')
abbrev zio : List Str := ["draw", "ground", "width", "height"]
def zlh : DTS :=
    (dSeq (dIfS (dAnd (zan (dOp dLt (dCB dLen (zd (dFld CA.Ground "craters" (zf 1)) dNil)) (dC (.int 3)))) (zan (dOp dEq (dCB zi (zd (zf 0) (zd (dC (.int 6)) dNil))) (dC (.int 0)))))
    (dRet (dFz (zg0 CA.Camera zaw (zd (dC (.int 3)) (zd (dC (.int 3)) (zd (dC (.int 1)) (zd (dC (.int 0)) (zd (dOp zpn (dCB zi (zd (zf 0) (zd (dC (.int 4)) dNil))) (dC (.int 3))) dNil))))))))
    zck)
    (dSeq (dAsg (dCB z5 (zd (zf 0) (zd (zha (zd (dTup (zd (dC (.int 2)) (zd (dC (.int 2)) dNil))) (zd (dTup (zd (dC (.int 3)) (zd (dC (.int 2)) dNil))) (zd (dTup (zd (dC (.int 2)) (zd (dC (.int 1)) dNil))) (zd (dTup (zd (dC (.int 3)) (zd (dC (.int 1)) dNil))) (zd (dTup (zd (dC (.int 2)) (zd (dC (.int 2)) dNil))) dNil)))))) dNil))) (zf6 (zag (zn 2) (zag (zn 3) zgc)) 2))
    (dRet (dFz (zg0 CA.Camera zaw (zd (zf 2) (zd (zf 3) (zd (dOp zpn (dCB zi (zd (zf 0) (zd (dC (.int 5)) dNil))) (dC (.int 4))) (zd (dOp zpn (dCB zi (zd (zf 0) (zd (dC (.int 4)) dNil))) (dC (.int 3))) (zd (dOp zpn (dCB zi (zd (zf 0) (zd (dC (.int 4)) dNil))) (dC (.int 3))) dNil))))))))))
theorem zsc : ∀ ds G Q, zd0 ds G Q → ds.length = 2 := fun ds G Q ⟨_, _, _, _, _, e, _⟩ => by rw [e]; rfl
def whL : List (Int × Int) := [(2, 2), (3, 2), (2, 1), (3, 1), (2, 2)]
theorem zr8 : ∀ ds G Q, zd0 ds G Q → zlh { nx := fun _ G' => Q .non G', rt := Q } (zav zio ds) G := fun l G Q h => by
  obtain ⟨a, ns, c, G0, cs, rfl, rfl, hl, q⟩ := h
  have mk : ∀ (cam : Cam) (c' : Int), z17 cam → ∀ x, Gw G0 a ns c' x = none → zaw [.ref x, .int cam.w, .int cam.h, .int cam.er, .int cam.fa, .int cam.lo] (up (Gw G0 a ns c') x (.ins CA.Camera [])) fun d G2 => d = .non ∧ (match G2 x with | some o => Q o.tree (dl G2 x) | none => False) := fun cam c' h x hx => by
    refine ⟨x, cam, rfl, zo, ⟨by have := h.w; omega, by have := h.h; omega, by have := h.er; omega, by have := h.fa; omega, by have := h.lo; omega⟩, ?_⟩
    rw [zfe]
    refine ⟨rfl, ?_⟩
    simp_arith only [zo, zc8 hx]
    exact q cam c' h
  have rest : ∀ c', (dSeq (dAsg (dCB z5 (zd (zf 0) (zd (zha (zd (dTup (zd (dC (.int 2)) (zd (dC (.int 2)) dNil))) (zd (dTup (zd (dC (.int 3)) (zd (dC (.int 2)) dNil))) (zd (dTup (zd (dC (.int 2)) (zd (dC (.int 1)) dNil))) (zd (dTup (zd (dC (.int 3)) (zd (dC (.int 1)) dNil))) (zd (dTup (zd (dC (.int 2)) (zd (dC (.int 2)) dNil))) dNil)))))) dNil))) (zf6 (zag (zn 2) (zag (zn 3) zgc)) 2))
      (dRet (dFz (zg0 CA.Camera zaw (zd (zf 2) (zd (zf 3) (zd (dOp zpn (dCB zi (zd (zf 0) (zd (dC (.int 5)) dNil))) (dC (.int 4))) (zd (dOp zpn (dCB zi (zd (zf 0) (zd (dC (.int 4)) dNil))) (dC (.int 3))) (zd (dOp zpn (dCB zi (zd (zf 0) (zd (dC (.int 4)) dNil))) (dC (.int 3))) dNil)))))))))
      { nx := fun _ G' => Q .non G', rt := Q } [some (.ref a), some (gD cs), none, none] (Gw G0 a ns c') := fun c' => by
    simp_arith only [zg0]
    refine ⟨a, ns, c', G0, _, whL.map e2, rfl, rfl, hl, .inl rfl, by decide, fun d hd => ?_⟩
    obtain ⟨wh, hwh, rfl⟩ := List.mem_map.mp hd
    have hw : (1 ≤ wh.1 ∧ wh.1 ≤ 3) ∧ 1 ≤ wh.2 ∧ wh.2 ≤ 3 := by
      have : ∀ wh ∈ whL, (1 ≤ wh.1 ∧ wh.1 ≤ 3) ∧ 1 ≤ wh.2 ∧ wh.2 ≤ 3 := by decide
      exact this wh hwh
    simp_arith only [e2]
    refine zbm (by decide) hl fun er er0 er1 => ⟨cdiv (by decide), ?_⟩
    refine zbm (by decide) hl fun fa fa0 fa1 => ⟨cdiv (by decide), ?_⟩
    refine zbm (by decide) hl fun lo lo0 lo1 => ⟨cdiv (by decide), ?_⟩
    exact mk ⟨wh.1, wh.2, er / 4, fa / 3, lo / 3⟩ _ ⟨hw.1, hw.2, by dsimp only; omega, by dsimp only; omega, by dsimp only; omega⟩
  unfold zlh
  simp_arith only [zio, dFld, zi0, zvd, zg0]
  have rest' := rest
  simp_arith only [zg0] at rest'
  by_cases h3 : (cs.length : Int) < 3
  · rw [if_pos h3]
    refine zbm (by decide) hl fun r r0 r1 => ?_
    simp_arith only [true_and]
    by_cases h6 : r = 0
    · rw [if_pos h6]
      refine zbm (by decide) hl fun lo lo0 lo1 => ⟨cdiv (by decide), ?_⟩
      exact mk ⟨3, 3, 1, 0, lo / 3⟩ _ ⟨by dsimp only; omega, by dsimp only; omega, by dsimp only; omega, by dsimp only; omega, by dsimp only; omega⟩
    · rw [if_neg h6]
      exact rest' _
  · rw [if_neg h3]
    exact rest' _
end M
namespace M
open PySem PySem.Spec PyProof.Rows L2 DL
variable [CA]
def shL : List (Int × Int) := [(1, 0), (0, 1), (-1, 0), (0, -1), (2, 0), (0, 2)]
def slL : List (List (Int × Int)) := [[(0, 0)], [(0, 0)], [(0, 0), (1, 0)], [(0, 0), (0, -1)], [(-1, 0), (0, 0), (0, 1)], [(0, 0)], [(0, 0)], [(0, 0), (1, 0)], [(1, 0)], [(-1, 0), (0, 1)]]
def slS : List (List (Int × Int)) := [[(0, 0)], [(0, 0), (1, 0)], [(0, -1), (0, 0)], [(-1, 0), (0, 0), (0, 1)], [(1, 0)], [(-1, 0), (0, 1)]]
instance : DecidableRel lt2 := fun a b => by unfold lt2; infer_instance
instance (p : Int × Int) : Decidable (okSh p) := by unfold okSh; infer_instance
theorem sl_s : ∀ sl ∈ slL, ∃ s ∈ slS, (∀ p ∈ s, p ∈ sl) ∧ (∀ p ∈ sl, p ∈ s) ∧ sl.length < 64 := by decide
theorem s_ok : ∀ s ∈ slS, s ≠ [] ∧ (∀ p ∈ s, okSh p) ∧ s.Pairwise lt2 ∧ s.length < 64 := by decide
theorem zabu : ∀ a ∈ shL, okSh a := by decide
/-- a drawn deed of a craft with so many cameras -/
def DrD (k : Int) : Dd → Prop
  | .step f a s => (1 ≤ f ∧ f ≤ 2) ∧ a ∈ shL ∧ s ∈ slS
  | .turn f n => (1 ≤ f ∧ f ≤ 2) ∧ 1 ≤ n ∧ n ≤ 3
  | .look f n => (1 ≤ f ∧ f ≤ 2) ∧ 0 ≤ n ∧ n < k
  | .land f s => (1 ≤ f ∧ f ≤ 2) ∧ s ∈ slS
  | .away f => 1 ≤ f ∧ f ≤ 3
theorem zy1 {d : Dd} (h : OkDd d) (e : d.sl = [(0, 0)]) : Mk4 d [(0, 0)] := ⟨h, fun p => by rw [e], by decide, fun _ => rfl⟩
theorem zva {k : Int} (hk : k ≤ 1000) : ∀ {d : Dd}, DrD k d → OkDd d
  | .step f a s, ⟨h1, h2, h3⟩ => by
    obtain ⟨s1, s2, s3, s4⟩ := s_ok s h3
    exact ⟨by show 1 ≤ f ∧ f ≤ 1000; omega, zabu a h2, s1, s2, s3, s4⟩
  | .turn f n, ⟨h1, h2⟩ => ⟨by show 1 ≤ f ∧ f ≤ 1000; omega, h2, (nomatch ·), by show ∀ p ∈ [((0 : Int), (0 : Int))], okSh p; decide, by show [((0 : Int), (0 : Int))].Pairwise lt2; decide, by show [((0 : Int), (0 : Int))].length < 64; decide⟩
  | .look f n, ⟨h1, h2, h3⟩ => ⟨by show 1 ≤ f ∧ f ≤ 1000; omega, by show 0 ≤ n ∧ n ≤ 1000; omega, (nomatch ·), by show ∀ p ∈ [((0 : Int), (0 : Int))], okSh p; decide, by show [((0 : Int), (0 : Int))].Pairwise lt2; decide, by show [((0 : Int), (0 : Int))].length < 64; decide⟩
  | .land f s, ⟨h1, h3⟩ => by
    obtain ⟨s1, s2, s3, s4⟩ := s_ok s h3
    exact ⟨by show 1 ≤ f ∧ f ≤ 1000; omega, trivial, s1, s2, s3, s4⟩
  | .away f, h1 => ⟨by show 1 ≤ f ∧ f ≤ 1000; have h1 : 1 ≤ f ∧ f ≤ 3 := h1; omega, trivial, (nomatch ·), by show ∀ p ∈ [((0 : Int), (0 : Int))], okSh p; decide, by show [((0 : Int), (0 : Int))].Pairwise lt2; decide, by show [((0 : Int), (0 : Int))].length < 64; decide⟩
def AllD (k : Int) (dds : List Dd) : Prop := (∀ d ∈ dds, DrD k d) ∧ ∃ f n, Dd.look f n ∈ dds
def zem : DRn := fun l G Q => ∃ (a : Addr) (ns : List Int) (c : Int) (G0 : DHp) (k : Int), l = [.ref a, .int k] ∧ G = Gw G0 a ns c ∧ ns.length ≤ 63 ∧ (1 ≤ k ∧ k ≤ 2) ∧ ∀ (dds : List Dd) (c' : Int), dds ≠ [] → dds.length ≤ 8 → (∀ d ∈ dds, DrD k d) → (∃ f n, Dd.look f n ∈ dds) → Q (eT ddD dds) (Gw G0 a ns c')
abbrev zjr : List Str := ["draw", "cameras", "shifts", "slips", "found", "number", "order"]
def zkc : DTS :=
    (dAsg (zha (zd (dTup (zd (dC (.int 1)) (zd (dC (.int 0)) dNil))) (zd (dTup (zd (dC (.int 0)) (zd (dC (.int 1)) dNil))) (zd (dTup (zd (dNeg (dC (.int 1))) (zd (dC (.int 0)) dNil))) (zd (dTup (zd (dC (.int 0)) (zd (dNeg (dC (.int 1))) dNil))) (zd (dTup (zd (dC (.int 2)) (zd (dC (.int 0)) dNil))) (zd (dTup (zd (dC (.int 0)) (zd (dC (.int 2)) dNil))) dNil))))))) (zn 2))
def zlu : DTS :=
    (dAsg (zha (zd (dTup (zd (dTup (zd (dC (.int 0)) (zd (dC (.int 0)) dNil))) dNil)) (zd (dTup (zd (dTup (zd (dC (.int 0)) (zd (dC (.int 0)) dNil))) dNil)) (zd (dTup (zd (dTup (zd (dC (.int 0)) (zd (dC (.int 0)) dNil))) (zd (dTup (zd (dC (.int 1)) (zd (dC (.int 0)) dNil))) dNil))) (zd (dTup (zd (dTup (zd (dC (.int 0)) (zd (dC (.int 0)) dNil))) (zd (dTup (zd (dC (.int 0)) (zd (dNeg (dC (.int 1))) dNil))) dNil))) (zd (dTup (zd (dTup (zd (dNeg (dC (.int 1))) (zd (dC (.int 0)) dNil))) (zd (dTup (zd (dC (.int 0)) (zd (dC (.int 0)) dNil))) (zd (dTup (zd (dC (.int 0)) (zd (dC (.int 1)) dNil))) dNil)))) (zd (dTup (zd (dTup (zd (dC (.int 0)) (zd (dC (.int 0)) dNil))) dNil)) (zd (dTup (zd (dTup (zd (dC (.int 0)) (zd (dC (.int 0)) dNil))) dNil)) (zd (dTup (zd (dTup (zd (dC (.int 0)) (zd (dC (.int 0)) dNil))) (zd (dTup (zd (dC (.int 1)) (zd (dC (.int 0)) dNil))) dNil))) (zd (dTup (zd (dTup (zd (dC (.int 1)) (zd (dC (.int 0)) dNil))) dNil)) (zd (dTup (zd (dTup (zd (dNeg (dC (.int 1))) (zd (dC (.int 0)) dNil))) (zd (dTup (zd (dC (.int 0)) (zd (dC (.int 1)) dNil))) dNil))) dNil))))))))))) (zn 3))
def zlm : DTS :=
    (dAsg (dLc (ze8 (zd (zf 1) dNil)) (zn 5) dYes (dCB zn6 (zd (dCB z5 (zd (zf 0) (zd (zha (zd (dC (.int 1)) (zd (dC (.int 1)) (zd (dC (.int 1)) (zd (dC (.int 1)) (zd (dC (.int 2)) dNil)))))) dNil))) (zd (zf 5) dNil))) [5]) (zn 4))
def zls : DTS :=
    (dFor (ze8 (zd (dOp dAdd (dC (.int 1)) (dCB zi (zd (zf 0) (zd (dC (.int 3)) dNil)))) dNil)) (zn 5)
    (zib (dM "list" zf9 (zf 4) (zd (dCB zom (zd (dOp dAdd (dC (.int 1)) (dCB zi (zd (zf 0) (zd (dC (.int 2)) dNil)))) (zd (dCB z5 (zd (zf 0) (zd (zf 2) dNil))) (zd (dCB z5 (zd (zf 0) (zd (zf 3) dNil))) dNil)))) dNil))))
def zmx : DTS :=
    (dIfS (zan (dOp dEq (dCB zi (zd (zf 0) (zd (dC (.int 3)) dNil))) (dC (.int 0))))
    (zib (dM "list" zf9 (zf 4) (zd (dCB zoe (zd (dCB z5 (zd (zf 0) (zd (zha (zd (dC (.int 1)) (zd (dC (.int 1)) (zd (dC (.int 1)) (zd (dC (.int 2)) dNil))))) dNil))) (zd (dOp dAdd (dC (.int 1)) (dCB zi (zd (zf 0) (zd (dC (.int 3)) dNil)))) dNil))) dNil)))
    zck)
def zm4 : DTS :=
    (dIfS (zan (dOp dGt (dCB zi (zd (zf 0) (zd (dC (.int 5)) dNil))) (dC (.int 0))))
    (zib (dM "list" zf9 (zf 4) (zd (dCB zoc (zd (dCB z5 (zd (zf 0) (zd (zha (zd (dC (.int 1)) (zd (dC (.int 1)) (zd (dC (.int 1)) (zd (dC (.int 1)) (zd (dC (.int 2)) dNil)))))) dNil))) (zd (dCB z5 (zd (zf 0) (zd (zf 3) dNil))) dNil))) dNil)))
    zck)
def zmv : DTS :=
    (dIfS (zan (dOp dGt (dCB zi (zd (zf 0) (zd (dC (.int 4)) dNil))) (dC (.int 0))))
    (zib (dM "list" zf9 (zf 4) (zd (dCB zoh (zd (dOp dAdd (dC (.int 1)) (dCB zi (zd (zf 0) (zd (dC (.int 3)) dNil)))) dNil)) dNil)))
    zck)
def zlg : DTS :=
    (z2q (zan (dOp (dEmp true) (zf 4) (zha dNil)))
    (zib (dM "list" zf9 (zf 6) (zd (dM "list" zxg (zf 4) (zd (dCB zi (zd (zf 0) (zd (dCB dLen (zd (zf 4) dNil)) dNil))) dNil)) dNil))))
def zmz : DTS :=
    (dSeq zkc
    (dSeq zlu
    (dSeq zlm
    (dSeq zls
    (dSeq zmx
    (dSeq zm4
    (dSeq zmv
    (dSeq (dAsg (zk8 dNil) (zn 6))
    (dSeq zlg
    (dFrz 4 (dFrz 6 (dRet (dCB zo1 (zd (zf 6) dNil))))))))))))))
theorem ztq : ∀ ds G Q, zem ds G Q → ds.length = 2 := fun ds G Q ⟨_, _, _, _, _, e, _⟩ => by rw [e]; rfl
abbrev stW (a : Addr) (k : Int) (p o q : Option D) : DSt := [some (.ref a), some (.int k), some (eL e2 shL), some (eL (eT e2) slL), p, o, q]
section
variable {F : zh5} {a p w : Addr} {ns : List Int} {c k : Int} {G0 : DHp}
theorem z1o {x y z v : Option D} {G : DHp} (q : F.nx [some (.ref a), some (.int k), some (eL e2 shL), x, y, z, v] G) : zkc F [some (.ref a), some (.int k), none, x, y, z, v] G := by
  simp_arith only [zkc]
  exact q
theorem z33 {y z v : Option D} {G : DHp} (q : F.nx (stW a k y z v) G) : zlu F [some (.ref a), some (.int k), some (eL e2 shL), none, y, z, v] G := by
  simp_arith only [zlu]
  exact q
theorem zwu {xs : List Int} {G : DHp} {Q : DVK} (hl : ns.length ≤ 63) (e : G = Gw G0 a ns c) (hn : 0 < xs.length) (q : ∀ x ∈ xs, Q (.int x) (Gw G0 a ns (c + 1))) : z5 [.ref a, .nd .lst (xs.map .int)] G Q :=
  ⟨a, ns, c, G0, _, xs.map .int, rfl, e, hl, .inl rfl, by rw [List.length_map]; exact hn, fun d hd => by obtain ⟨x, hx, rfl⟩ := List.mem_map.mp hd; exact q x hx⟩
theorem zz2 {α : Type} {f : α → D} {xs : List α} {G : DHp} {Q : DVK} (hl : ns.length ≤ 63) (e : G = Gw G0 a ns c) (hn : 0 < xs.length) (q : ∀ x ∈ xs, Q (f x) (Gw G0 a ns (c + 1))) : z5 [.ref a, eL f xs] G Q :=
  ⟨a, ns, c, G0, _, xs.map f, rfl, e, hl, .inl rfl, by rw [List.length_map]; exact hn, fun d hd => by obtain ⟨x, hx, rfl⟩ := List.mem_map.mp hd; exact q x hx⟩
theorem z28 {o q : Option D} (hk : 1 ≤ k ∧ k ≤ 2) (hl : ns.length ≤ 63) (kk : ∀ (dds : List Dd) (c' : Int) (p : Addr), a ≠ p → G0 p = none → dds.length = k.toNat → AllD k dds → F.nx (stW a k (some (.ref p)) o q) (Gw (up G0 p (.lst (dds.map ddD))) a ns c')) : zlm F (stW a k none o q) (Gw G0 a ns c) := by
  simp_arith only [zlm]
  refine z6j (xs := za5 0 k) (f := .int) ddD (fun n d => ∃ f : Int, (1 ≤ f ∧ f ≤ 2) ∧ d = .look f n) (by rw [za1]; omega) (fun R r => ?_) (fun n hn G1 c1 A aa => ?_) fun ys hy hp c' p hpn => ?_
  · simp_arith only [ze8]
    exact ⟨⟨by omega, by omega⟩, r⟩
  · simp_arith only [true_and]
    rw [mem_range] at hn
    refine zwu (xs := [1, 1, 1, 1, 2]) hl rfl (by decide) fun f hf => ?_
    have hf : 1 ≤ f ∧ f ≤ 2 := by
      have : ∀ f ∈ ([1, 1, 1, 1, 2] : List Int), 1 ≤ f ∧ f ≤ 2 := by decide
      exact this f hf
    exact ⟨f, n, rfl, zy1 (zva (k := k) (by omega) (d := .look f n) ⟨hf, by omega, by omega⟩) rfl, aa _ _ ⟨f, hf, rfl⟩⟩
  · obtain ⟨e, hap⟩ := zos (o := .lst (ys.map ddD)) hpn
    rw [e]
    rw [za1] at hy
    refine kk ys c' p hap (zlc hap hpn) (by rw [hy]; congr 1; omega) ⟨fun d hd => ?_, ?_⟩
    · obtain ⟨n, hn, f, hf, rfl⟩ := hp d hd
      rw [mem_range] at hn
      exact ⟨hf, by omega, by omega⟩
    · cases ys with
      | nil => rw [List.length_nil] at hy; omega
      | cons y ys =>
        obtain ⟨n, hn, f, hf, e⟩ := hp y (by simp)
        exact ⟨f, n, by rw [e]; simp⟩
/-- a deed more -/
theorem zwm {dds : List Dd} {d : Dd} {Q : DVK} (hap : a ≠ p) (hl : dds.length ≤ 100) (q : Q .non (Gw (up G0 p (.lst ((dds ++ [d]).map ddD))) a ns c)) : zf9 [.ref p, ddD d] (Gw (up G0 p (.lst (dds.map ddD))) a ns c) Q := by
  refine (zll (y := ddD d) (zig hap) (zb0 (by rw [List.length_map]; omega)) ?_).2
  rw [zx0 hap]
  rw [List.map_append] at q
  exact q
theorem zvv {dds : List Dd} {d : Dd} (h : AllD k dds) (hd : DrD k d) : AllD k (dds ++ [d]) := ⟨fun e he => by
  rcases List.mem_append.mp he with he | he
  · exact h.1 e he
  · rw [List.mem_singleton] at he; rw [he]; exact hd, by obtain ⟨f, n, hm⟩ := h.2; exact ⟨f, n, List.mem_append.mpr (.inl hm)⟩⟩
theorem z4f {o : Option D} {dds : List Dd} (hk : 1 ≤ k ∧ k ≤ 2) (hl : ns.length ≤ 63) (hap : a ≠ p) (hd : AllD k dds) (hn : dds.length ≤ 2) (kk : ∀ (dds' : List Dd) (o' : Option D) (c' : Int), AllD k dds' → dds.length ≤ dds'.length → dds'.length ≤ dds.length + 3 → F.nx (stW a k (some (.ref p)) o' none) (Gw (up G0 p (.lst (dds'.map ddD))) a ns c')) :
    zls F (stW a k (some (.ref p)) o none) (Gw (up G0 p (.lst (dds.map ddD))) a ns c) := by
  simp_arith only [zls, dFor, ze8]
  refine zbm (by decide) hl fun n n0 n1 => ?_
  simp_arith only [true_and]
  refine ⟨⟨by omega, by omega⟩, ?_⟩
  refine ⟨fun i η G' => ∃ o1 dds' c', η = stW a k (some (.ref p)) o1 none ∧ G' = Gw (up G0 p (.lst (dds'.map ddD))) a ns c' ∧ dds'.length = dds.length + i ∧ AllD k dds', ⟨o, dds, _, rfl, rfl, rfl, hd⟩, fun _ _ _ _ => trivial, ?_, ?_⟩
  · rintro i d η G' hdd ⟨o1, dds', c', rfl, rfl, hc, bd⟩
    obtain ⟨z, hz, rfl⟩ := zcq hdd
    have hi := (List.getElem?_eq_some_iff.mp hz).1
    rw [za1] at hi
    simp_arith only [true_and]
    refine ⟨by simp only [tyD, zig hap], ?_⟩
    refine zbm (by decide) hl fun x x0 x1 => ?_
    simp_arith only [true_and]
    refine zz2 (xs := shL) hl rfl (by decide) fun sh hsh => ?_
    refine zz2 (xs := slL) hl rfl (by decide) fun sl hsl => ?_
    obtain ⟨s, hs, m1, m2, m3⟩ := sl_s sl hsl
    have dr : DrD k (.step (1 + x) sh s) := ⟨by omega, hsh, hs⟩
    refine ⟨1 + x, sh, s, sl, rfl, ⟨zva (k := k) (by omega) dr, fun p => ⟨m1 p, m2 p⟩, m3, fun z => z.elim⟩, ?_⟩
    refine zwm hap (by omega) ?_
    exact ⟨_, (by repeat (first | exact Le.nil | apply Le.keep | apply Le.drop)), _, dds' ++ [.step (1 + x) sh s], _, rfl, rfl, by rw [List.length_append, List.length_singleton]; omega, zvv bd dr⟩
  · rintro η G' ⟨o1, dds', c', rfl, rfl, hc, bd⟩
    rw [List.length_map, za1] at hc
    exact kk dds' o1 c' bd (by omega) (by omega)
theorem z5h {o : Option D} {dds : List Dd} (hk : 1 ≤ k ∧ k ≤ 2) (hl : ns.length ≤ 63) (hap : a ≠ p) (hd : AllD k dds) (hn : dds.length ≤ 90) (kk : ∀ (dds' : List Dd) (c' : Int), AllD k dds' → dds.length ≤ dds'.length → dds'.length ≤ dds.length + 1 → F.nx (stW a k (some (.ref p)) o none) (Gw (up G0 p (.lst (dds'.map ddD))) a ns c')) :
    zmx F (stW a k (some (.ref p)) o none) (Gw (up G0 p (.lst (dds.map ddD))) a ns c) := by
  simp_arith only [zmx]
  refine zbm (by decide) hl fun n n0 n1 => ?_
  simp_arith only [true_and]
  by_cases h : n = 0
  · rw [if_pos h]
    refine ⟨by simp only [tyD, zig hap], ?_⟩
    refine zwu (xs := [1, 1, 1, 2]) hl rfl (by decide) fun f hf => ?_
    have hf : 1 ≤ f ∧ f ≤ 2 := by
      have : ∀ f ∈ ([1, 1, 1, 2] : List Int), 1 ≤ f ∧ f ≤ 2 := by decide
      exact this f hf
    refine zbm (by decide) hl fun x x0 x1 => ?_
    have dr : DrD k (.turn f (1 + x)) := ⟨hf, by omega, by omega⟩
    refine ⟨f, 1 + x, rfl, zy1 (zva (k := k) (by omega) dr) rfl, ?_⟩
    refine zwm hap (by omega) ?_
    exact kk _ _ (zvv hd dr) (by simp) (by simp)
  · rw [if_neg h]
    exact kk _ _ hd (Nat.le_refl _) (by omega)
theorem z6c {o : Option D} {dds : List Dd} (hk : 1 ≤ k ∧ k ≤ 2) (hl : ns.length ≤ 63) (hap : a ≠ p) (hd : AllD k dds) (hn : dds.length ≤ 90) (kk : ∀ (dds' : List Dd) (c' : Int), AllD k dds' → dds.length ≤ dds'.length → dds'.length ≤ dds.length + 1 → F.nx (stW a k (some (.ref p)) o none) (Gw (up G0 p (.lst (dds'.map ddD))) a ns c')) :
    zm4 F (stW a k (some (.ref p)) o none) (Gw (up G0 p (.lst (dds.map ddD))) a ns c) := by
  simp_arith only [zm4]
  refine zbm (by decide) hl fun n n0 n1 => ?_
  simp_arith only [true_and]
  by_cases h : 0 < n
  · rw [if_pos h]
    refine ⟨by simp only [tyD, zig hap], ?_⟩
    refine zwu (xs := [1, 1, 1, 1, 2]) hl rfl (by decide) fun f hf => ?_
    have hf : 1 ≤ f ∧ f ≤ 2 := by
      have : ∀ f ∈ ([1, 1, 1, 1, 2] : List Int), 1 ≤ f ∧ f ≤ 2 := by decide
      exact this f hf
    refine zz2 (xs := slL) hl rfl (by decide) fun sl hsl => ?_
    obtain ⟨s, hs, m1, m2, m3⟩ := sl_s sl hsl
    have dr : DrD k (.land f s) := ⟨hf, hs⟩
    refine ⟨f, s, sl, rfl, ⟨zva (k := k) (by omega) dr, fun p => ⟨m1 p, m2 p⟩, m3, fun z => z.elim⟩, ?_⟩
    refine zwm hap (by omega) ?_
    exact kk _ _ (zvv hd dr) (by simp) (by simp)
  · rw [if_neg h]
    exact kk _ _ hd (Nat.le_refl _) (by omega)
theorem z43 {o : Option D} {dds : List Dd} (hk : 1 ≤ k ∧ k ≤ 2) (hl : ns.length ≤ 63) (hap : a ≠ p) (hd : AllD k dds) (hn : dds.length ≤ 90) (kk : ∀ (dds' : List Dd) (c' : Int), AllD k dds' → dds.length ≤ dds'.length → dds'.length ≤ dds.length + 1 → F.nx (stW a k (some (.ref p)) o none) (Gw (up G0 p (.lst (dds'.map ddD))) a ns c')) :
    zmv F (stW a k (some (.ref p)) o none) (Gw (up G0 p (.lst (dds.map ddD))) a ns c) := by
  simp_arith only [zmv]
  refine zbm (by decide) hl fun n n0 n1 => ?_
  simp_arith only [true_and]
  by_cases h : 0 < n
  · rw [if_pos h]
    refine ⟨by simp only [tyD, zig hap], ?_⟩
    refine zbm (by decide) hl fun x x0 x1 => ?_
    simp_arith only [true_and]
    have dr : DrD k (.away (1 + x)) := show 1 ≤ 1 + x ∧ 1 + x ≤ 3 by omega
    refine ⟨1 + x, rfl, zy1 (zva (k := k) (by omega) dr) rfl, ?_⟩
    refine zwm hap (by omega) ?_
    exact kk _ _ (zvv hd dr) (by simp) (by simp)
  · rw [if_neg h]
    exact kk _ _ hd (Nat.le_refl _) (by omega)
end
end M
namespace M
open PySem PySem.Spec PyProof.Rows L2 DL
variable [CA]
section
variable {F : zh5} {a p w : Addr} {ns : List Int} {c k : Int} {G0 : DHp}
theorem zyt {A B : DO} (hap : a ≠ p) (hwp : w ≠ p) : Gw (up (up G0 p A) w B) a ns c p = some A := by
  show up (up (up G0 p A) w B) a _ p = _
  rw [zq8 (Ne.symm hap), zq8 (Ne.symm hwp), zo]
theorem z9n {A A' B : DO} (hap : a ≠ p) (hwp : w ≠ p) : up (Gw (up (up G0 p A) w B) a ns c) p A' = Gw (up (up G0 p A') w B) a ns c := by
  show up (up (up (up G0 p A) w B) a _) p A' = _
  rw [zol hap, zol hwp, zfe]
theorem z9l {A B : DO} (hap : a ≠ p) (hwp : w ≠ p) (h : G0 p = none) : dl (Gw (up (up G0 p A) w B) a ns c) p = Gw (up G0 w B) a ns c := by
  show dl (up (up (up G0 p A) w B) a _) p = _
  rw [zw0 hap, zw0 hwp, zc8 h]
theorem z26 {o : Option D} {dds : List Dd} (hk : 1 ≤ k ∧ k ≤ 2) (hl : ns.length ≤ 63) (hap : a ≠ p) (haw : a ≠ w) (hwp : w ≠ p) (hd : AllD k dds) (hn : dds.length ≤ 90) (kk : ∀ (ors : List Dd) (c' : Int), AllD k ors → ors.length = dds.length → F.nx (stW a k (some (.ref p)) o (some (.ref w))) (Gw (up (up G0 p (.lst [])) w (.lst (ors.map ddD))) a ns c')) :
    zlg F (stW a k (some (.ref p)) o (some (.ref w))) (Gw (up (up G0 p (.lst (dds.map ddD))) w (.lst [])) a ns c) := by
  simp_arith only [zlg]
  refine ⟨fun m η G' => ∃ (es ors : List Dd) (c' : Int), η = stW a k (some (.ref p)) o (some (.ref w)) ∧ G' = Gw (up (up G0 p (.lst (es.map ddD))) w (.lst (ors.map ddD))) a ns c' ∧ es.length = m ∧ (∀ d ∈ es, DrD k d) ∧ (∀ d ∈ ors, DrD k d) ∧ (∃ f n, Dd.look f n ∈ es ∨ Dd.look f n ∈ ors) ∧ es.length + ors.length = dds.length, ⟨dds.length, dds, [], c, rfl, rfl, rfl, hd.1, (by simp), (by obtain ⟨f, n, hm⟩ := hd.2; exact ⟨f, n, .inl hm⟩), rfl⟩, ?_⟩
  rintro m η G' ⟨es, ors, c', rfl, rfl, hm, h1, h2, hlk, h3⟩
  simp_arith only [true_and]
  unfold dEmp
  have l1 : lsD (.ref p) (Gw (up (up G0 p (.lst (es.map ddD))) w (.lst (ors.map ddD))) a ns c') = some (es.map ddD) := z8q (zyt hap hwp)
  have l2 : lsD (.nd .lst []) (Gw (up (up G0 p (.lst (es.map ddD))) w (.lst (ors.map ddD))) a ns c') = some [] := rfl
  dsimp only
  rw [l2]
  dsimp only
  rw [l1]
  dsimp only
  by_cases hes : es = []
  · subst hes
    simp_arith only [List.isEmpty_nil]
    rw [List.length_nil, Nat.zero_add] at h3
    exact kk ors c' ⟨h2, by obtain ⟨f, n, hm⟩ := hlk; exact ⟨f, n, hm.elim (fun z => (by cases z)) id⟩⟩ h3
  · have hie : (es.map ddD).isEmpty = false := by
      cases es with
      | nil => exact absurd rfl hes
      | cons _ _ => rfl
    have hpos : 0 < es.length := List.length_pos_iff.mpr hes
    rw [hie]
    simp_arith only [true_and]
    have t1 : tyD "list" (.ref w) (Gw (up (up G0 p (.lst (es.map ddD))) w (.lst (ors.map ddD))) a ns c') := by simp only [tyD, zig haw]
    have t2 : ∀ c', tyD "list" (.ref p) (Gw (up (up G0 p (.lst (es.map ddD))) w (.lst (ors.map ddD))) a ns c') := fun c' => by simp only [tyD, zyt hap hwp]
    have l3 : sqD (.ref p) (Gw (up (up G0 p (.lst (es.map ddD))) w (.lst (ors.map ddD))) a ns c') = some (es.map ddD) := by
      unfold sqD
      rw [zvg (zyt hap hwp)]
    refine ⟨t1, t2 _, ?_⟩
    rw [zn8 l3]
    refine zbm (by rw [List.length_map]; omega) hl fun r r0 r1 => ?_
    rw [List.length_map] at r1
    refine (zx8 (f := ddD) (xs := es) (zyt hap hwp) r0 r1 fun d hdm hor => ?_).2
    rw [z9n hap hwp]
    have hlen : (es.eraseIdx r.toNat).length + 1 = es.length := by
      rw [List.length_eraseIdx_of_lt (by omega)]
      omega
    refine (zll (y := ddD d) (zig haw) (zb0 (by rw [List.length_map]; omega)) ?_).2
    rw [zx0 haw]
    refine ⟨es.length - 1, by omega, _, (by repeat (first | exact Le.nil | apply Le.keep | apply Le.drop)), es.eraseIdx r.toNat, ors ++ [d], _, rfl, by rw [List.map_append]; rfl, by omega, fun x hx => h1 x (List.mem_of_mem_eraseIdx hx), fun x hx => ?_, ?_, ?_⟩
    · rcases List.mem_append.mp hx with hx | hx
      · exact h2 x hx
      · rw [List.mem_singleton] at hx; rw [hx]; exact h1 d hdm
    · obtain ⟨f, n, hm⟩ := hlk
      refine ⟨f, n, ?_⟩
      rcases hm with hm | hm
      · rcases hor _ hm with e | e
        · exact .inr (List.mem_append.mpr (.inr (by rw [e]; simp)))
        · exact .inl e
      · exact .inr (List.mem_append.mpr (.inl hm))
    · rw [List.length_append, List.length_singleton]
      omega
end
theorem zts : ∀ ds G Q, zem ds G Q → zmz { nx := fun _ G' => Q .non G', rt := Q } (zav zjr ds) G := fun l G Q h => by
  obtain ⟨a, ns, c, G0, k, rfl, rfl, hl, hk, q⟩ := h
  unfold zmz
  refine z1o ?_
  refine z33 ?_
  refine z28 hk hl fun dl1 c1 p hap hgp h1 h2 => ?_
  have hk2 : k.toNat ≤ 2 ∧ 1 ≤ k.toNat := by omega
  refine z4f hk hl hap h2 (by omega) fun dl2 o2 c2 h3 h4 h5 => ?_
  refine z5h hk hl hap h3 (by omega) fun dl3 c3 h6 h7 h8 => ?_
  refine z6c hk hl hap h6 (by omega) fun dl4 c4 h9 h10 h11 => ?_
  refine z43 hk hl hap h9 (by omega) fun dl5 c5 h12 h13 h14 => ?_
  simp_arith only [true_and]
  intro w hw
  obtain ⟨e, haw⟩ := zos (o := .lst []) hw
  have hgw := zlc haw hw
  have hwp : w ≠ p := fun e => by
    rw [e, zo] at hgw
    cases hgw
  rw [e]
  refine z26 hk hl hap haw hwp h12 (by omega) fun ors c6 h15 h16 => ?_
  have hgw0 : G0 w = none := by rw [← hgw, zq8 hwp]
  simp_arith only [zyt hap hwp, z9l hap hwp hgp, zig haw, z16 haw hgw0, DO.tree]
  rw [zp6 (ds := ors.map ddD) rfl]
  refine q ors c6 (fun e => ?_) (by omega) h15.1 h15.2
  rw [e, List.length_nil] at h16
  omega
end M
set_option pp.maxSteps 4000
namespace M
open PySem PySem.Spec PyProof.Rows L2 DL
variable [CA]
def tuD : List (List Int) := [[0], [0], [0, 1], [1, 2], [0, 2]]
theorem z0f : ∀ t ∈ tuD, t ≠ [] ∧ (∀ x ∈ t, 0 ≤ x ∧ x ≤ 3) ∧ t.Pairwise (· < ·) ∧ t.length ≤ 2 := by decide
structure DrC (c : Cr) : Prop where
  g : DrG c.cs
  tu : c.tu ∈ tuD
  b1 : (-1 ≤ c.ar.1 ∧ c.ar.1 ≤ 0) ∧ c.ar.1 + 1 ≤ c.ar.2.1 ∧ c.ar.2.1 ≤ c.ar.1 + 2
  b2 : (-1 ≤ c.ar.2.2.1 ∧ c.ar.2.2.1 ≤ 0) ∧ c.ar.2.2.1 ≤ c.ar.2.2.2 ∧ c.ar.2.2.2 ≤ c.ar.2.2.1 + 2
  cn : 1 ≤ c.cams.length ∧ c.cams.length ≤ 2
  cams : ∀ cam ∈ c.cams, z17 cam
  foot : (0 ≤ c.foot.1 ∧ c.foot.1 ≤ 2) ∧ 0 ≤ c.foot.2 ∧ c.foot.2 ≤ 1
  room : 0 ≤ c.room ∧ c.room ≤ 1
  dn : c.deeds ≠ []
  dl : c.deeds.length ≤ 8
  dd : ∀ d ∈ c.deeds, DrD c.cams.length d
  lk : ∃ f n, Dd.look f n ∈ c.deeds
theorem DrC.ok {c : Cr} (h : DrC c) : OkCr c where
  ne := fun e => by have := h.cn; rw [e, List.length_nil] at this; omega
  cl := by have := h.cn; omega
  foot := by have := h.foot; exact ⟨by omega, by omega⟩
  room := by have := h.room; omega
  dl := by have := h.dl; omega
  dd := fun d hd => zva (k := c.cams.length) (by have := h.cn; omega) (h.dd d hd)
  look := fun f a ha => (h.dd _ ha).2.2
theorem z15 {t : Int} {u v : Int} (h0 : 0 ≤ t ∧ t ≤ 2) (h1 : 0 ≤ u ∧ u ≤ 10) (h2 : 0 ≤ v ∧ v ≤ 10) : t * u * v ≤ 40000 := by
  have a1 : t * u ≤ 2 * 10 := Int.mul_le_mul h0.2 h1.2 h1.1 (by decide)
  have a2 : 0 ≤ t * u := Int.mul_nonneg h0.1 h1.1
  have a3 : t * u * v ≤ 20 * 10 := Int.mul_le_mul (by omega) h2.2 h2.1 (by decide)
  omega
theorem DrC.sk {c : Cr} (h : DrC c) {cam : Cam} (hc : z17 cam) : OkSk (c.sk cam) where
  cs := by show c.cs.length ≤ 100; have := h.g.len; omega
  cb := fun p hp => by
    obtain ⟨b1, b2, b3⟩ := h.g.bd p hp
    exact ⟨⟨by omega, by omega⟩, ⟨by omega, by omega⟩, by omega, by omega⟩
  cam := by
    obtain ⟨h1, h2, h3, h4, h5⟩ := hc
    exact ⟨by show 1 ≤ cam.w ∧ cam.w ≤ 1000; omega, by show 1 ≤ cam.h ∧ cam.h ≤ 1000; omega, by show 0 ≤ cam.er ∧ cam.er ≤ 100; omega, by show 0 ≤ cam.fa ∧ cam.fa ≤ 100; omega, by show 0 ≤ cam.lo ∧ cam.lo ≤ 100; omega⟩
  tl := by show c.tu.length ≤ 4; have := (z0f _ h.tu).2.2.2; omega
  b1 := by show -1000 ≤ c.ar.1 ∧ c.ar.1 ≤ c.ar.2.1 ∧ c.ar.2.1 ≤ c.ar.1 + 99; have := h.b1; omega
  b2 := by show -1000 ≤ c.ar.2.2.1 ∧ c.ar.2.2.1 ≤ c.ar.2.2.2 ∧ c.ar.2.2.2 ≤ c.ar.2.2.1 + 99; have := h.b2; omega
  u1 := by show c.ar.1 ≤ 1000; have := h.b1; omega
  u2 := by show c.ar.2.2.1 ≤ 1000; have := h.b2; omega
def zeh : DRn := fun l G Q => ∃ (a : Addr) (ns : List Int) (c : Int) (G0 : DHp), l = [.ref a] ∧ G = Gw G0 a ns c ∧ ns.length ≤ 63 ∧ ∀ (cr : Cr) (c' : Int), DrC cr → Q (crD cr) (Gw G0 a ns c')
abbrev zhz : List Str := ["draw", "ground", "turns", "low_a", "low_b", "area", "skies", "number"]
def zm1 : DTS :=
    (dSeq (dAsg (dTup (zd (dCB zdy (zd (zf 0) dNil)) (zd (dCB z5 (zd (zf 0) (zd (zha (zd (dTup (zd (dC (.int 0)) dNil)) (zd (dTup (zd (dC (.int 0)) dNil)) (zd (dTup (zd (dC (.int 0)) (zd (dC (.int 1)) dNil))) (zd (dTup (zd (dC (.int 1)) (zd (dC (.int 2)) dNil))) (zd (dTup (zd (dC (.int 0)) (zd (dC (.int 2)) dNil))) dNil)))))) dNil))) dNil))) (zf6 (zag (zn 1) (zag (zn 2) zgc)) 2))
    (dSeq (dPar 3 4 (zd (dNeg (dCB zi (zd (zf 0) (zd (dC (.int 2)) dNil)))) (zd (dNeg (dCB zi (zd (zf 0) (zd (dC (.int 2)) dNil)))) dNil)))
    (dSeq (dAsg (dTup (zd (zf 3) (zd (dOp dAdd (dOp dAdd (zf 3) (dC (.int 1))) (dCB zi (zd (zf 0) (zd (dC (.int 2)) dNil)))) (zd (zf 4) (zd (dOp dAdd (zf 4) (dCB zi (zd (zf 0) (zd (dC (.int 3)) dNil)))) dNil))))) (zn 5))
    (dSeq (dAsg (dCB zo1 (zd (dFz (dLc (ze8 (zd (dOp dAdd (dC (.int 1)) (dOp zpn (dCB zi (zd (zf 0) (zd (dC (.int 5)) dNil))) (dC (.int 4)))) dNil)) (zn 7) dYes (dFz (zg0 CA.Sky zc4 (zd (zf 1) (zd (dCB zd0 (zd (zf 0) (zd (zf 1) dNil))) (zd (zf 2) (zd (zf 5) dNil)))))) [7])) dNil)) (zn 6))
    (dRet (dFz (zg0 CA.Craft zca (zd (zf 6) (zd (dTup (zd (dCB zi (zd (zf 0) (zd (dC (.int 3)) dNil))) (zd (dCB zi (zd (zf 0) (zd (dC (.int 2)) dNil))) dNil))) (zd (dCB zi (zd (zf 0) (zd (dC (.int 2)) dNil))) (zd (dCB zem (zd (zf 0) (zd (dCB dLen (zd (zf 6) dNil)) dNil))) dNil)))))))))))
theorem zui : ∀ ds G Q, zeh ds G Q → ds.length = 1 := fun ds G Q ⟨_, _, _, _, e, _⟩ => by rw [e]; rfl
theorem zt0 : ∀ ds G Q, zeh ds G Q → zm1 { nx := fun _ G' => Q .non G', rt := Q } (zav zhz ds) G := fun l G Q h => by
  obtain ⟨a, ns, c, G0, rfl, rfl, hl, q⟩ := h
  simp_arith only [zm1, zhz]
  refine ⟨a, ns, c, G0, rfl, rfl, hl, fun cs c1 gr => ?_⟩
  refine ⟨a, ns, c1, G0, _, tuD.map (eT .int), rfl, rfl, hl, .inl rfl, by decide, fun d hd => ?_⟩
  obtain ⟨tu, htu, rfl⟩ := List.mem_map.mp hd
  obtain ⟨t1, t2, t3, t4⟩ := z0f tu htu
  refine zbm (by decide) hl fun x x0 x1 => ?_
  simp_arith only [true_and]
  refine zbm (by decide) hl fun y y0 y1 => ?_
  simp_arith only [true_and]
  refine zbm (by decide) hl fun z z0 z1 => ?_
  simp_arith only [true_and]
  refine zbm (by decide) hl fun w w0 w1 => ?_
  simp_arith only [true_and]
  have gl := gr.len
  refine zaal (β := Cam) (f := .int) (fun cam => sD ⟨cs, cam, tu, -x, -x + 1 + z, -y, -y + w⟩) (fun _ cam => z17 cam) (fun xs => 1 ≤ xs.length ∧ xs.length ≤ 2) (fun xs h => by omega) (fun R r => ?_) (fun xs hxs n hn G1 c3 A aa => ?_) fun xs hxs ys hy hp c' p hpn => ?_
  · simp_arith only [ze8]
    refine zbm (by decide) hl fun v v0 v1 => ⟨cdiv (by decide), ⟨by omega, by omega⟩, ?_⟩
    exact r _ _ ⟨by rw [za1]; omega, by rw [za1]; omega⟩
  · simp_arith only [zg0]
    refine ⟨a, ns, c3, G1, cs, rfl, rfl, hl, fun cam c4 hcam => ?_⟩
    intro p hpn
    refine ⟨p, ⟨cs, cam, tu, -x, -x + 1 + z, -y, -y + w⟩, rfl, zo, ⟨t1, t2, t3, by show tu.length ≤ 4; omega, by show -1000000 ≤ -x ∧ -x ≤ -x + 1 + z ∧ -x + 1 + z ≤ 1000000; omega, by show -1000000 ≤ -y ∧ -y ≤ -y + w ∧ -y + w ≤ 1000000; omega, z15 (by dsimp only; omega) (by dsimp only; omega) (by dsimp only; omega)⟩, ?_⟩
    rw [zfe]
    refine ⟨rfl, ?_⟩
    simp_arith only [zo, zc8 hpn]
    exact aa cam _ hcam
  · obtain ⟨e, hap⟩ := zos (o := .lst (ys.map fun cam => sD ⟨cs, cam, tu, -x, -x + 1 + z, -y, -y + w⟩)) hpn
    have hgp := zlc hap hpn
    rw [e]
    simp_arith only [zig hap, z16 hap hgp, DO.tree]
    rw [zp6 (ds := ys.map fun cam => sD ⟨cs, cam, tu, -x, -x + 1 + z, -y, -y + w⟩) rfl]
    simp_arith only [zg0]
    refine zbm (by decide) hl fun f1 f10 f11 => ?_
    refine zbm (by decide) hl fun f2 f20 f21 => ?_
    refine zbm (by decide) hl fun rm rm0 rm1 => ?_
    rw [zw6, List.length_map]
    refine ⟨a, ns, _, G0, (ys.length : Int), rfl, rfl, hl, by omega, fun dds c9 q1 q2 q3 q4 => ?_⟩
    have dr : DrC ⟨cs, tu, (-x, -x + 1 + z, -y, -y + w), ys, (f1, f2), rm, dds⟩ := ⟨gr, htu, ⟨⟨by dsimp only; omega, by dsimp only; omega⟩, by dsimp only; omega, by dsimp only; omega⟩, ⟨⟨by dsimp only; omega, by dsimp only; omega⟩, by dsimp only; omega, by dsimp only; omega⟩, ⟨by dsimp only; omega, by dsimp only; omega⟩, fun cam hc => by obtain ⟨_, _, h⟩ := hp cam hc; exact h, ⟨⟨by dsimp only; omega, by dsimp only; omega⟩, by dsimp only; omega, by dsimp only; omega⟩, ⟨by dsimp only; omega, by dsimp only; omega⟩, q1, q2, q3, q4⟩
    intro w2 hw2
    refine ⟨w2, ⟨cs, tu, (-x, -x + 1 + z, -y, -y + w), ys, (f1, f2), rm, dds⟩, rfl, zo, dr.ok, ?_⟩
    rw [zfe]
    refine ⟨rfl, ?_⟩
    simp_arith only [zo, zc8 hw2]
    exact q _ _ dr
end M
namespace M
open PySem PySem.Spec PyProof.Rows L2 DL
variable [CA]
def Cr.s0 (c : Cr) : Sk := c.sk (c.cams.headD ⟨1, 1, 0, 0, 0⟩)
theorem znd {c : Cr} {G : DHp} {Q : DVK} (hne : c.cams ≠ []) (q : Q (sD c.s0) G) : dIx c.skies (.int 0) G Q := by
  unfold Cr.skies
  refine ztl (d := sD c.s0) (by decide) ?_ q
  unfold Cr.s0
  cases e : c.cams with
  | nil => exact absurd e hne
  | cons a l => rfl
theorem DrC.s0 {c : Cr} (h : DrC c) : OkSk c.s0 := by
  refine h.sk ?_
  cases e : c.cams with
  | nil => have := h.cn; rw [e, List.length_nil] at this; omega
  | cons a l => exact h.cams a (by rw [e]; simp)
theorem DrC.tu3 {c : Cr} (h : DrC c) : ∀ t ∈ c.s0.tu, 0 ≤ t ∧ t ≤ 3 := (z0f _ h.tu).2.1
theorem DrC.st_ne {c : Cr} (h : DrC c) : zhe c.s0 ≠ [] := fun e => by
  obtain ⟨t, ht⟩ := List.exists_mem_of_ne_nil _ (z0f _ h.tu).1
  have b1 := h.b1
  have b2 := h.b2
  have : (t, c.ar.1, c.ar.2.2.1) ∈ zhe c.s0 := (zyp h.tu3).mpr ⟨h.tu3 t ht, ⟨⟨by show c.ar.1 ≤ c.ar.1; omega, by show c.ar.1 ≤ c.ar.2.1; omega⟩, by show c.ar.2.2.1 ≤ c.ar.2.2.1; omega, by show c.ar.2.2.1 ≤ c.ar.2.2.2; omega⟩, ht⟩
  rw [e] at this
  cases this
theorem z55 {xs : List Pt} {G : DHp} {Q : DVK} (q : Q (.bl (!xs.isEmpty)) G) : dNe (eL e3 xs) (.nd .lst []) G Q := by
  refine zyv (z4o (f := e3) zwv xs) rfl (Nat.le_trans (zo5 (B := 1) (f := e3) zrl xs) (by decide)) (show PyData.depth (py (.nd .lst [])) ≤ 64 by decide) (!xs.isEmpty) ?_ q
  cases xs with
  | nil => exact ⟨fun z => (by cases z), fun z => absurd rfl z⟩
  | cons a l => exact ⟨fun _ z => (by cases z), fun _ => rfl⟩
structure BlC (cr : Cr) : Prop where
  ne : cr.cams ≠ []
  s0 : OkSk cr.s0
  sn : zhe cr.s0 ≠ []
theorem DrC.bl {cr : Cr} (dr : DrC cr) : BlC cr := ⟨dr.ok.ne, dr.s0, dr.st_ne⟩
def zdu : DRn := fun l G Q => ∃ (a : Addr) (ns : List Int) (c : Int) (G0 : DHp) (cr : Cr), l = [.ref a, crD cr] ∧ G = Gw G0 a ns c ∧ ns.length ≤ 63 ∧ BlC cr ∧ ∀ (rows : List Pt) (c' : Int), rows ≠ [] → rows.length ≤ 5 → rows.Sublist (zhe cr.s0) → Q (eT e3 rows) (Gw G0 a ns c')
abbrev zg9 : List Str := ["draw", "craft", "rows", "standing"]
def zlq : DTS :=
    (dSeq (dAsg (dLc (zd4 (zp5 CA.Sky "standings" zb4 (dOp dIx (dFld CA.Craft "skies" (zf 1)) (dC (.int 0))) dNil)) (zn 3) (zan (dOp dGt (dCB zi (zd (zf 0) (zd (dC (.int 3)) dNil))) (dC (.int 0)))) (zf 3) [3]) (zn 2))
    (dSeq (z2q (zan (dOp dGt (dCB dLen (zd (zf 2) dNil)) (dC (.int 5))))
    (zib (dM "list" zxg (zf 2) (zd (dCB zi (zd (zf 0) (zd (dCB dLen (zd (zf 2) dNil)) dNil))) dNil))))
    (dFrz 2 (dRet (dIf (zan (dOp dNe (zf 2) (zha dNil))) (dCB zo1 (zd (zf 2) dNil)) (zkw dSl (zp5 CA.Sky "standings" zb4 (dOp dIx (dFld CA.Craft "skies" (zf 1)) (dC (.int 0))) dNil) zhs (zqf (dC (.int 1)))))))))
theorem zs8 : ∀ ds G Q, zdu ds G Q → ds.length = 2 := fun ds G Q ⟨_, _, _, _, _, e, _⟩ => by rw [e]; rfl
theorem z4d {α : Type} : ∀ (xs : List α) (k : Nat), (xs.eraseIdx k).Sublist xs := fun xs k => List.eraseIdx_sublist xs k
theorem zsf : ∀ ds G Q, zdu ds G Q → zlq { nx := fun _ G' => Q .non G', rt := Q } (zav zg9 ds) G := fun l G Q h => by
  obtain ⟨a, ns, c, G0, cr, rfl, rfl, hl, dr, q⟩ := h
  have hne := dr.ne
  have sl : (zhe cr.s0).length ≤ 40000 := by
    have := zxp dr.s0 cr.s0.tu.length
    rw [List.take_length] at this
    exact this
  simp_arith only [zlq, zg9]
  refine zaay (xs := zhe cr.s0) (f := e3) e3 (by omega) (fun R r => ?_) (fun x hx G1 c1 A B aa bb => ?_) fun rows hsub c' p hpn => ?_
  · simp_arith only [zd4, zp5, dFld, zna]
    refine znd hne ?_
    exact ⟨z4g (by decide), cr.s0, rfl, dr.s0, r⟩
  · simp_arith only [true_and]
    refine zbm (by decide) hl fun r r0 r1 => ?_
    simp_arith only [true_and]
    by_cases h : 0 < r
    · rw [if_pos h]; exact aa _
    · rw [if_neg h]; exact bb _
  · obtain ⟨e, hap⟩ := zos (o := .lst (rows.map e3)) hpn
    have hgp := zlc hap hpn
    rw [e]
    refine ⟨fun m η G' => ∃ (rows' : List Pt) (c2 : Int) (o : Option D), η = [some (.ref a), some (crD cr), some (.ref p), o] ∧ G' = Gw (up G0 p (.lst (rows'.map e3))) a ns c2 ∧ rows'.length = m ∧ rows'.Sublist (zhe cr.s0), ⟨rows.length, rows, c', _, rfl, rfl, rfl, hsub⟩, ?_⟩
    rintro m η G' ⟨rows', c2, o, rfl, rfl, hm, hs⟩
    have sq : sqD (.ref p) (Gw (up G0 p (.lst (rows'.map e3))) a ns c2) = some (rows'.map e3) := by
      unfold sqD
      rw [zvg (zig hap)]
    simp_arith only [true_and]
    rw [zn8 sq]
    simp_arith only [List.length_map]
    by_cases h5 : (5 : Int) < (rows'.length : Int)
    · rw [if_pos h5]
      refine ⟨by simp only [tyD, zig hap], ?_⟩
      rw [zn8 sq]
      refine zbm (by rw [List.length_map]; omega) hl fun r r0 r1 => ?_
      rw [List.length_map] at r1
      refine (zx8 (f := e3) (xs := rows') (zig hap) r0 r1 fun d hdm _ => ?_).2
      rw [zx0 hap]
      have hlen : (rows'.eraseIdx r.toNat).length + 1 = rows'.length := by
        rw [List.length_eraseIdx_of_lt (by omega)]
        omega
      exact ⟨rows'.length - 1, by omega, _, (by repeat (first | exact Le.nil | apply Le.keep | apply Le.drop)), rows'.eraseIdx r.toNat, _, _, rfl, rfl, by omega, (z4d _ _).trans hs⟩
    · rw [if_neg h5]
      simp_arith only [zig hap, z16 hap hgp, DO.tree]
      refine z55 ?_
      cases rows' with
      | nil =>
        simp_arith only [List.isEmpty_nil, zp5, dFld, zna]
        refine znd hne ?_
        refine ⟨z4g (by decide), cr.s0, rfl, dr.s0, ?_⟩
        have e1 : dSl (eT e3 (zhe cr.s0)) none (some 1) (Gw G0 a ns c2) Q = Q (eT e3 ((zhe cr.s0).take 1)) (Gw G0 a ns c2) := by
          unfold dSl
          show Q (.nd .tup (cutD ((zhe cr.s0).map e3) none (some 1))) _ = _
          rw [show cutD ((zhe cr.s0).map e3) none (some 1) = ((zhe cr.s0).map e3).take 1 from z5g _ 1, ← List.map_take]
          rfl
        show dSl (eT e3 (zhe cr.s0)) none (some 1) (Gw G0 a ns c2) Q
        rw [e1]
        refine q _ _ (fun z => ?_) (by rw [List.length_take]; omega) (List.take_sublist _ _)
        have := dr.sn
        cases e : zhe cr.s0 with
        | nil => exact this e
        | cons u v => rw [e] at z; cases z
      | cons u v =>
        simp_arith only [List.isEmpty_cons]
        rw [zp6 (ds := (u :: v).map e3) rfl]
        exact q (u :: v) _ (fun z => nomatch z) (by omega) hs
end M
namespace M
open PySem PySem.Spec PyProof.Rows L2 DL
variable [CA]
def ab (i : Int) : Int := if i < 0 then -i else i
theorem zs9 {i : Int} {G : DHp} {Q : DVK} : dAbs [.int i] G Q = Q (.int (ab i)) G := rfl
def mx (i j : Int) : Int := if j > i then j else i
theorem zrq {i j : Int} {G : DHp} {Q : DVK} : z1s [.int i, .int j] G Q = Q (.int (mx i j)) G := rfl
theorem z7j {i : Int} {G : DHp} {Q : DVK} : dInt [.int i] G Q = Q (.int i) G := rfl
def zd6 (ft : Int × Int) (st : Pt) : Int × Int := rot (ft.1 - st.2.1) (ft.2 - st.2.2) ((4 - st.1) % 4)
theorem zfd {p : Int × Int} {G : DHp} {Q : DVK} {i : Int} {z : Int} (h0 : 0 ≤ i) (h : [D.int p.1, .int p.2][i.toNat]? = some (.int z)) (q : Q (.int z) G) : dIx (e2 p) (.int i) G Q := ztl h0 h q
theorem z0s {c : Cr} {m : Str} {G : DHp} (h : (["skies", "foot", "room", "deeds"] : List Str).contains m = false) : insD CA.Craft m (crD c) G := ⟨rfl, h⟩
def zae : DRn := fun ds G Q => ∃ (c : Cr) (st : Pt), ds = [crD c, e3 st] ∧ Q (e2 (zd6 c.foot st)) G
abbrev ze7 : List Str := ["self", "standing", "turn", "a", "b"]
def zg3 : DTS :=
    (dSeq (dAsg (zf 1) (zf6 (zag (zn 2) (zag (zn 3) (zag (zn 4) zgc))) 3))
    (dRet (dCB zf2 (zd (dOp dSub (dOp dIx (dFld CA.Craft "foot" (zf 0)) (dC (.int 0))) (zf 3)) (zd (dOp dSub (dOp dIx (dFld CA.Craft "foot" (zf 0)) (dC (.int 1))) (zf 4)) (zd (dOp dMod (dCB dInt (zd (dOp dSub (dC (.int 4)) (zf 2)) dNil)) (dC (.int 4))) dNil))))))
theorem znk : ∀ ds G Q, zae ds G Q → ds.length = 2 := fun ds G Q ⟨c, st, e, _⟩ => by rw [e]; rfl
theorem znh : ∀ ds G Q, zae ds G Q → zg3 { nx := fun _ G' => Q .non G', rt := Q } (zav ze7 ds) G := fun ds G Q h => by
  obtain ⟨c, st, rfl, q⟩ := h
  simp_arith only [zg3, ze7, e3]
  simp_arith only [dFld, z3f]
  refine zfd (by decide) rfl ?_
  simp_arith only [true_and]
  refine zfd (by decide) rfl ?_
  simp_arith only [z7j]
  refine ⟨by decide, ?_⟩
  exact ⟨_, _, _, rfl, rfl, rfl, q⟩
/-- clear of a crater -/
def clr (c : Cr) (st p : Pt) : Prop := c.room + p.2.2 < mx (ab ((rot p.1 p.2.1 st.1).1 + st.2.1 - c.foot.1)) (ab ((rot p.1 p.2.1 st.1).2 + st.2.2 - c.foot.2))
instance (c : Cr) (st p : Pt) : Decidable (clr c st p) := by unfold clr; infer_instance
def safe (c : Cr) (st : Pt) : Bool := c.cs.all fun p => decide (clr c st p)
theorem z0o {c : Cr} {G : DHp} : fldD CA.Sky "ground" (sD c.s0) G = some (gD c.cs) := zxf
def zcp : DRn := fun ds G Q => ∃ (c : Cr) (st : Pt), ds = [crD c, e3 st] ∧ c.cams ≠ [] ∧ Q (.bl (safe c st)) G
abbrev zg2 : List Str := ["self", "standing", "turn", "a", "b", "x", "y", "size", "u", "v"]
def zi3 : DTS :=
    (dSeq (dAsg (zf 1) (zf6 (zag (zn 2) (zag (zn 3) (zag (zn 4) zgc))) 3))
    (dSeq (dFor (zd4 (dFld CA.Ground "craters" (dFld CA.Sky "ground" (dOp dIx (dFld CA.Craft "skies" (zf 0)) (dC (.int 0)))))) (zf6 (zag (zn 5) (zag (zn 6) (zag (zn 7) zgc))) 3)
    (dSeq (dAsg (dCB zf2 (zd (zf 5) (zd (zf 6) (zd (zf 2) dNil)))) (zf6 (zag (zn 8) (zag (zn 9) zgc)) 2))
    (dIfS (zan (dOp dLe (dCB z1s (zd (dCB dAbs (zd (dOp dSub (dOp dAdd (zf 8) (zf 3)) (dOp dIx (dFld CA.Craft "foot" (zf 0)) (dC (.int 0)))) dNil)) (zd (dCB dAbs (zd (dOp dSub (dOp dAdd (zf 9) (zf 4)) (dOp dIx (dFld CA.Craft "foot" (zf 0)) (dC (.int 1)))) dNil)) dNil))) (dOp dAdd (dFld CA.Craft "room" (zf 0)) (zf 7))))
    (dRet (dC (.bl false)))
    zck)))
    (dRet (dC (.bl true)))))
theorem zp7 : ∀ ds G Q, zcp ds G Q → ds.length = 2 := fun ds G Q ⟨c, st, e, _⟩ => by rw [e]; rfl
theorem zqe : ∀ ds G Q, zcp ds G Q → zi3 { nx := fun _ G' => Q .non G', rt := Q } (zav zg2 ds) G := fun ds G Q h => by
  obtain ⟨c, st, rfl, hne, q⟩ := h
  unfold safe at q
  simp_arith only [zi3, zg2, e3]
  simp_arith only [dFor, zd4, dFld, zna]
  refine znd hne ?_
  rw [z0o]
  dsimp only
  rw [zi0]
  simp_arith only [eT]
  refine ⟨fun i η G' => ∃ x y z u v, η = [some (crD c), some (.nd .tup [.int st.1, .int st.2.1, .int st.2.2]), some (.int st.1), some (.int st.2.1), some (.int st.2.2), x, y, z, u, v] ∧ G' = G ∧ ∀ p ∈ c.cs.take i, clr c st p, ⟨none, none, none, none, none, rfl, rfl, by simp⟩, fun _ _ _ _ => trivial, ?_, ?_⟩
  · rintro i d η G' hd ⟨x, y, z, u, v, rfl, rfl, hp⟩
    obtain ⟨p, hpp, rfl⟩ := zcq hd
    simp_arith only [e3]
    refine ⟨_, _, _, rfl, rfl, rfl, ?_⟩
    simp_arith only [e2]
    simp_arith only [dFld, z3f]
    refine zfd (by decide) rfl ?_
    simp_arith only [zs9]
    refine zfd (by decide) rfl ?_
    simp_arith only [zs9, zrq, zzu]
    by_cases h : clr c st p
    · have h2 := h
      unfold clr at h2
      rw [if_neg (by omega)]
      refine ⟨_, (by repeat (first | exact Le.nil | apply Le.keep | apply Le.drop)), _, _, _, _, _, rfl, rfl, ?_⟩
      intro p' hp'
      rw [zho hpp] at hp'
      rcases List.mem_append.mp hp' with h' | h'
      · exact hp p' h'
      · rw [List.mem_singleton] at h'; rw [h']; exact h
    · have h2 := h
      unfold clr at h2
      rw [if_pos (by omega)]
      rw [show (c.cs.all fun p => decide (clr c st p)) = false by
        rw [List.all_eq_false]
        exact ⟨p, List.mem_of_getElem? hpp, by rw [decide_eq_true_eq]; exact h⟩] at q
      exact q
  · rintro η G' ⟨x, y, z, u, v, rfl, rfl, hp⟩
    rw [List.length_map, List.take_length] at hp
    rw [List.all_eq_true.mpr fun p h => decide_eq_true (hp p h)] at q
    exact q
end M
namespace M
open PySem PySem.Spec PyProof.Rows L2 DL
variable [CA]
def clrC (c : Cr) (z : Int × Int) (p : Pt) : Prop := c.room + p.2.2 < mx (ab (p.1 - z.1)) (ab (p.2.1 - z.2))
instance (c : Cr) (z : Int × Int) (p : Pt) : Decidable (clrC c z p) := by unfold clrC; infer_instance
def clear (c : Cr) (z : Int × Int) : Bool := c.cs.all fun p => decide (clrC c z p)
def zc5 : DRn := fun ds G Q => ∃ (c : Cr) (z : Int × Int), ds = [crD c, e2 z] ∧ c.cams ≠ [] ∧ Q (.bl (clear c z)) G
abbrev zm9 : List Str := ["craft", "cell", "x", "y", "size"]
def zp8 : DTS :=
    (dSeq (dFor (zd4 (dFld CA.Ground "craters" (dFld CA.Sky "ground" (dOp dIx (dFld CA.Craft "skies" (zf 0)) (dC (.int 0)))))) (zf6 (zag (zn 2) (zag (zn 3) (zag (zn 4) zgc))) 3)
    (dIfS (zan (dOp dLe (dCB z1s (zd (dCB dAbs (zd (dOp dSub (zf 2) (dOp dIx (zf 1) (dC (.int 0)))) dNil)) (zd (dCB dAbs (zd (dOp dSub (zf 3) (dOp dIx (zf 1) (dC (.int 1)))) dNil)) dNil))) (dOp dAdd (dFld CA.Craft "room" (zf 0)) (zf 4))))
    (dRet (dC (.bl false)))
    zck))
    (dRet (dC (.bl true))))
theorem zx9 : ∀ ds G Q, zc5 ds G Q → ds.length = 2 := fun ds G Q ⟨c, z, e, _⟩ => by rw [e]; rfl
theorem zyu : ∀ ds G Q, zc5 ds G Q → zp8 { nx := fun _ G' => Q .non G', rt := Q } (zav zm9 ds) G := fun ds G Q h => by
  obtain ⟨c, z, rfl, hne, q⟩ := h
  unfold clear at q
  simp_arith only [zp8, zm9]
  simp_arith only [dFor, zd4, dFld, zna]
  refine znd hne ?_
  rw [z0o]
  dsimp only
  rw [zi0]
  simp_arith only [eT]
  refine ⟨fun i η G' => ∃ x y w, η = [some (crD c), some (e2 z), x, y, w] ∧ G' = G ∧ ∀ p ∈ c.cs.take i, clrC c z p, ⟨none, none, none, rfl, rfl, by simp⟩, fun _ _ _ _ => trivial, ?_, ?_⟩
  · rintro i d η G' hd ⟨x, y, w, rfl, rfl, hp⟩
    obtain ⟨p, hpp, rfl⟩ := zcq hd
    simp_arith only [e3]
    refine zfd (by decide) rfl ?_
    simp_arith only [zs9]
    refine zfd (by decide) rfl ?_
    simp_arith only [zs9, zrq, dFld, zzu]
    by_cases h : clrC c z p
    · have h2 := h
      unfold clrC at h2
      rw [if_neg (by omega)]
      refine ⟨_, (by repeat (first | exact Le.nil | apply Le.keep | apply Le.drop)), _, _, _, rfl, rfl, ?_⟩
      intro p' hp'
      rw [zho hpp] at hp'
      rcases List.mem_append.mp hp' with h' | h'
      · exact hp p' h'
      · rw [List.mem_singleton] at h'; rw [h']; exact h
    · have h2 := h
      unfold clrC at h2
      rw [if_pos (by omega)]
      rw [show (c.cs.all fun p => decide (clrC c z p)) = false by
        rw [List.all_eq_false]
        exact ⟨p, List.mem_of_getElem? hpp, by rw [decide_eq_true_eq]; exact h⟩] at q
      exact q
  · rintro η G' ⟨x, y, w, rfl, rfl, hp⟩
    rw [List.length_map, List.take_length] at hp
    rw [List.all_eq_true.mpr fun p h => decide_eq_true (hp p h)] at q
    exact q
/-- a text of these signs -/
def txt (l : List Nat) : Str := ⟨l.toArray⟩
theorem zh9 (l : List Nat) : (txt l).length = l.length := by simp [txt, Str.length]
theorem zpo (l : List Nat) : (txt l).cps.toList = l := by simp [txt]
theorem z30 {a b : List Nat} (h : txt a = txt b) : a = b := by
  have := congrArg (fun x : Str => x.cps.toList) h
  simpa [txt] using this
theorem z01 : ∀ l : List Nat, TL.joinL [] (l.map fun c => [c]) = l
  | [] => rfl
  | [c] => rfl
  | c :: d :: l => by
    have ih := z01 (d :: l)
    show [c] ++ ([] ++ TL.joinL [] ((d :: l).map fun c => [c])) = _
    rw [ih]
    rfl
theorem zuy (l : List Nat) : Txt.join "" (l.map fun c => txt [c]) = txt l := by
  have := SX.join_S [] (l.map fun c => [c])
  rw [z01, List.map_map] at this
  exact this
def sgC (n : Int) : Nat := if n = 0 then 46 else if n < 10 then (48 + n).toNat else 43
def sgn (n : Int) : Str := txt [sgC n]
theorem ztf {n : Int} (h0 : 0 ≤ n) (h1 : n < 10) : (toString n : Str) = txt [(48 + n).toNat] := by
  have : n = 0 ∨ n = 1 ∨ n = 2 ∨ n = 3 ∨ n = 4 ∨ n = 5 ∨ n = 6 ∨ n = 7 ∨ n = 8 ∨ n = 9 := by omega
  rcases this with rfl | rfl | rfl | rfl | rfl | rfl | rfl | rfl | rfl | rfl <;> decide +kernel
theorem zrx {n : Int} (h0 : 0 ≤ n) (h1 : n < 10) : n.natAbs.log2 < 1920 := by
  have : n = 0 ∨ n = 1 ∨ n = 2 ∨ n = 3 ∨ n = 4 ∨ n = 5 ∨ n = 6 ∨ n = 7 ∨ n = 8 ∨ n = 9 := by omega
  rcases this with rfl | rfl | rfl | rfl | rfl | rfl | rfl | rfl | rfl | rfl <;> decide +kernel
def ze1 : DRn := fun ds G Q => ∃ n : Int, ds = [.int n] ∧ 0 ≤ n ∧ Q (.str (sgn n)) G
abbrev zpb : List Str := ["size"]
def ztg : DTS :=
    (dSeq (dIfS (zan (dOp dEq (zf 0) (dC (.int 0))))
    (dRet (dC (.str ".")))
    zck)
    (dRet (dIf (zan (dOp dLt (zf 0) (dC (.int 10)))) (dCB z1p (zd (zf 0) dNil)) (dC (.str "+")))))
theorem zzv : ∀ ds G Q, ze1 ds G Q → ds.length = 1 := fun ds G Q ⟨n, e, _⟩ => by rw [e]; rfl
theorem zzs : ∀ ds G Q, ze1 ds G Q → ztg { nx := fun _ G' => Q .non G', rt := Q } (zav zpb ds) G := fun ds G Q h => by
  obtain ⟨n, rfl, h0, q⟩ := h
  unfold sgn sgC at q
  simp_arith only [ztg, zpb]
  by_cases h : n = 0
  · rw [if_pos (by simpa using h)]
    rw [if_pos h] at q
    exact q
  · rw [if_neg (by simpa using h)]
    rw [if_neg h] at q
    by_cases h1 : n < 10
    · rw [if_pos (by simpa using h1)]
      rw [if_pos h1] at q
      refine ⟨n, rfl, zrx h0 h1, ?_⟩
      rw [ztf h0 h1]
      exact q
    · rw [if_neg (by simpa using h1)]
      rw [if_neg h1] at q
      exact q
end M
namespace M
open PySem PySem.Spec PyProof.Rows L2 DL
variable [CA]
/-- the greatest crater at a place, 0 if there is none -/
def szAt (cs : List Pt) (z : Int × Int) : Int := cs.foldl (fun m p => if (p.1, p.2.1) = z then mx p.2.2 m else m) 0
theorem z3v (cs : List Pt) (p : Pt) (z : Int × Int) : szAt (cs ++ [p]) z = if (p.1, p.2.1) = z then mx p.2.2 (szAt cs z) else szAt cs z := by
  unfold szAt
  rw [List.foldl_append]
  rfl
theorem z4c (cs : List Pt) (z : Int × Int) : 0 ≤ szAt cs z := by
  have : ∀ (m : Int) (l : List Pt), 0 ≤ m → 0 ≤ l.foldl (fun m p => if (p.1, p.2.1) = z then mx p.2.2 m else m) m := by
    intro m l
    induction l generalizing m with
    | nil => exact id
    | cons p l ih =>
      intro h
      refine ih _ ?_
      dsimp only
      split
      · unfold mx; split <;> omega
      · exact h
  exact this 0 cs (Int.le_refl _)
def zof (F : Int → Int → Nat) (lo hi y : Int) : Str := txt ((za5 lo (hi + 1)).map fun x => F x y)
def ziq (F : Int → Int → Nat) (lo hi : Int × Int) : List Str := (za5 lo.2 (hi.2 + 1)).map (zof F lo.1 hi.1)
/-- bounds of a drawing -/
structure Bds (lo hi : Int × Int) : Prop where
  a : (-1000 ≤ lo.1 ∧ lo.1 ≤ 1000) ∧ -1000 ≤ lo.2 ∧ lo.2 ≤ 1000
  b : (-1000 ≤ hi.1 ∧ hi.1 ≤ 1000) ∧ -1000 ≤ hi.2 ∧ hi.2 ≤ 1000
theorem z5i {F : Int → Int → Nat} {lo hi y : Int} : Txt.join "" ((za5 lo (hi + 1)).map fun x => txt [F x y]) = zof F lo hi y := by
  rw [show ((za5 lo (hi + 1)).map fun x => txt [F x y]) = ((za5 lo (hi + 1)).map fun x => F x y).map fun c => txt [c] by rw [List.map_map]; rfl, zuy]
  rfl
theorem z3j {F : Int → Int → Nat} {lo hi y : Int} (h : hi - lo ≤ 10000) : (((za5 lo (hi + 1)).map fun x => txt [F x y]).map (·.length)).sum + ((za5 lo (hi + 1)).map fun x => txt [F x y]).length * ("" : Str).length ≤ 16777216 := by
  have e : (((za5 lo (hi + 1)).map fun x => txt [F x y]).map (·.length)).sum = (za5 lo (hi + 1)).length := by
    rw [List.map_map]
    induction za5 lo (hi + 1) with
    | nil => rfl
    | cons a l ih =>
      rw [List.map_cons, List.sum_cons, ih, List.length_cons]
      show (txt [F a y]).length + _ = _
      rw [zh9]
      simp
      omega
  rw [e, za1]
  show _ + _ * 0 ≤ _
  omega
theorem zvo {F : Int → Int → Nat} {lo hi y : Int} {d : D} {G : DHp} {Q : DVK} (h : hi - lo ≤ 10000) (e : der d G = .nd .lst ((za5 lo (hi + 1)).map fun x => .str (txt [F x y]))) (q : Q (.str (zof F lo hi y)) G) : zzq [.str "", d] G Q :=
  ⟨"", (za5 lo (hi + 1)).map fun x => txt [F x y], rfl, by rw [e, List.map_map]; rfl, z3j h, by rw [z5i]; exact q⟩
def zcd : DRn := fun ds G Q => ∃ (cs : List Pt) (lo hi : Int × Int), ds = [gD cs, e2 lo, e2 hi] ∧ cs.length ≤ 1000 ∧ Bds lo hi ∧ Q (.nd .lst ((ziq (fun x y => sgC (szAt cs (x, y))) lo hi).map D.str)) G
abbrev zgs : List Str := ["ground", "lows", "highs", "sizes", "x", "y", "size", "found"]
def zly : DTS :=
    (dSeq (dAsg z2v (zn 3))
    (dSeq (dFor (zd4 (dFld CA.Ground "craters" (zf 0))) (zf6 (zag (zn 4) (zag (zn 5) (zag (zn 6) zgc))) 3)
    (dAsg (dCB z1s (zd (zf 6) (zd (dM "dict" zzd (zf 3) (zd (dTup (zd (zf 4) (zd (zf 5) dNil))) (zd (dC (.int 0)) dNil))) dNil))) (zp3 (zf 3) (dTup (zd (zf 4) (zd (zf 5) dNil))) dSet)))
    (dFrz 3 (dSeq (dAsg (zk8 dNil) (zn 7))
    (dSeq (dFor (zcn (zd (dOp dIx (zf 1) (dC (.int 1))) (zd (dOp dAdd (dOp dIx (zf 2) (dC (.int 1))) (dC (.int 1))) dNil))) (zn 5)
    (zib (dM "list" zf9 (zf 7) (zd (dM "str" zzq (dC (.str "")) (zd (dFz (dLc (zcn (zd (dOp dIx (zf 1) (dC (.int 0))) (zd (dOp dAdd (dOp dIx (zf 2) (dC (.int 0))) (dC (.int 1))) dNil))) (zn 4) dYes (dCB ze1 (zd (dM "dict" zzd (zf 3) (zd (dTup (zd (zf 4) (zd (zf 5) dNil))) (zd (dC (.int 0)) dNil))) dNil)) [4])) dNil)) dNil))))
    (dFrz 7 (zo9 (zf 7))))))))
theorem zsm : ∀ ds G Q, zcd ds G Q → ds.length = 3 := fun ds G Q ⟨c, z, _, e, _⟩ => by rw [e]; rfl
theorem zth : ∀ ds G Q, zcd ds G Q → zly { nx := fun _ G' => Q .non G', rt := Q } (zav zgs ds) G := fun ds G Q h => by
  obtain ⟨cs, lo, hi, rfl, hl, B, q⟩ := h
  simp_arith only [zly, zgs, z2v]
  intro p hp
  simp_arith only [dFor, zd4, dFld, zi0, eT]
  refine ⟨fun i η G' => ∃ kvs a b c, η = [some (gD cs), some (e2 lo), some (e2 hi), some (.ref p), a, b, c, none] ∧ G' = up G p (.dN (enc DL.k2 .int kvs)) ∧ kvs.length ≤ i ∧ ∀ z, (aget kvs z).getD 0 = szAt (cs.take i) z, ⟨[], none, none, none, rfl, rfl, Nat.le_refl _, fun z => rfl⟩, fun _ _ _ _ => trivial, ?_, ?_⟩
  · rintro i d η G' hd ⟨kvs, a, b, c, rfl, rfl, hk, hz⟩
    obtain ⟨pt, hpt, rfl⟩ := zcq hd
    have hil := (List.getElem?_eq_some_iff.mp hpt).1
    simp_arith only [e3]
    refine zri tk2 (a := (pt.1, pt.2.1)) (kvs := kvs) (z := 0) (z0b zo) (z6n zo) ?_
    simp_arith only [zrq]
    refine z2s tk2 (a := (pt.1, pt.2.1)) (f := D.int) zo (zb0 (by omega)) ?_
    rw [zfe]
    refine ⟨_, (by repeat (first | exact Le.nil | apply Le.keep | apply Le.drop)), _, _, _, _, rfl, rfl, by have := z05 kvs (pt.1, pt.2.1) (mx pt.2.2 ((aget kvs (pt.1, pt.2.1)).getD 0)); omega, fun z => ?_⟩
    rw [zho hpt, z3v, zyd, hz]
    by_cases e : (pt.1, pt.2.1) = z
    · rw [if_pos e, if_pos e.symm, e]
      rfl
    · rw [if_neg e, if_neg (fun x => e x.symm)]
      exact hz z
  · rintro η G' ⟨kvs, a, b, c, rfl, rfl, hk, hz⟩
    rw [List.length_map, List.take_length] at hz
    simp_arith only [zo, zc8 hp, z2l]
    intro p2 hp2
    simp_arith only [zcn]
    refine zfd (by decide) rfl ?_
    refine zfd (by decide) rfl ?_
    simp_arith only [true_and]
    obtain ⟨⟨a1, a2⟩, a3, a4⟩ := B.a
    obtain ⟨⟨b1, b2⟩, b3, b4⟩ := B.b
    refine ⟨⟨by omega, by omega, by omega⟩, ?_⟩
    refine ⟨fun i η G' => ∃ a b c, η = [some (gD cs), some (e2 lo), some (e2 hi), some (eD DL.k2 .int kvs), a, b, c, some (.ref p2)] ∧ G' = up G p2 (.lst (((ziq (fun x y => sgC (szAt cs (x, y))) lo hi).take i).map D.str)), ⟨_, _, _, rfl, rfl⟩, fun _ _ _ _ => trivial, ?_, ?_⟩
    · rintro i d η G' hd ⟨a, b, c, rfl, rfl⟩
      obtain ⟨y, hy, rfl⟩ := zcq hd
      have hyl := (List.getElem?_eq_some_iff.mp hy).1
      rw [za1] at hyl
      have gy : (ziq (fun x y => sgC (szAt cs (x, y))) lo hi)[i]? = some (zof (fun x y => sgC (szAt cs (x, y))) lo.1 hi.1 y) := by
        unfold ziq
        rw [List.getElem?_map, hy]
        rfl
      simp_arith only [true_and]
      refine ⟨by simp only [tyD, zo], rfl, ?_⟩
      refine zjt (xs := za5 lo.1 (hi.1 + 1)) (f := .int) (fun x => .str (txt [sgC (szAt cs (x, y))])) (by rw [za1]; omega) (fun R r => ?_) (fun x hx G1 A kk => ?_) fun w1 hw1 => ?_
      · simp_arith only [zcn]
        refine zfd (by decide) rfl ?_
        refine zfd (by decide) rfl ?_
        simp_arith only [true_and]
        exact ⟨⟨by omega, by omega, by omega⟩, r⟩
      · simp_arith only [true_and]
        refine zri tk2 (a := (x, y)) (kvs := kvs) (z := 0) (z2g _ _ _ _) rfl ?_
        rw [hz]
        exact ⟨_, rfl, z4c cs _, kk⟩
      · simp_arith only [zo, zc8 hw1, DO.tree]
        refine zvo (F := fun x y => sgC (szAt cs (x, y))) (lo := lo.1) (hi := hi.1) (y := y) (by omega) rfl ?_
        refine (zll (p := p2) (y := .str (zof (fun x y => sgC (szAt cs (x, y))) lo.1 hi.1 y)) zo (zb0 (by rw [List.length_map, List.length_take]; omega)) ?_).2
        rw [zfe]
        refine ⟨_, (by repeat (first | exact Le.nil | apply Le.keep | apply Le.drop)), _, _, _, rfl, ?_⟩
        rw [zho gy, List.map_append]
        rfl
    · rintro η G' ⟨a, b, c, rfl, rfl⟩
      have el : (List.map D.int (za5 lo.2 (hi.2 + 1))).length = (ziq (fun x y => sgC (szAt cs (x, y))) lo hi).length := by
        unfold ziq
        rw [List.length_map, List.length_map]
      rw [el, List.take_length]
      simp_arith only [zo, zc8 hp2, DO.tree]
      exact q
end M
namespace M
open PySem PySem.Spec PyProof.Rows L2 DL
variable [CA]
def oxC (b : Bool) : Nat := if b then 111 else 120
def clF (c : Cr) (x y : Int) : Nat := oxC (clear c (x, y))
def zep : DRn := fun ds G Q => ∃ (c : Cr) (lo hi : Int × Int), ds = [crD c, e2 lo, e2 hi] ∧ c.cams ≠ [] ∧ Bds lo hi ∧ Q (.nd .lst ((ziq (clF c) lo hi).map D.str)) G
abbrev zh0 : List Str := ["craft", "lows", "highs", "found", "y", "x"]
def zmy : DTS :=
    (dSeq (dAsg (zk8 dNil) (zn 3))
    (dSeq (dFor (zcn (zd (dOp dIx (zf 1) (dC (.int 1))) (zd (dOp dAdd (dOp dIx (zf 2) (dC (.int 1))) (dC (.int 1))) dNil))) (zn 4)
    (zib (dM "list" zf9 (zf 3) (zd (dM "str" zzq (dC (.str "")) (zd (dFz (dLc (zcn (zd (dOp dIx (zf 1) (dC (.int 0))) (zd (dOp dAdd (dOp dIx (zf 2) (dC (.int 0))) (dC (.int 1))) dNil))) (zn 5) dYes (dIf (zan (dCB zc5 (zd (zf 0) (zd (dTup (zd (zf 5) (zd (zf 4) dNil))) dNil)))) (dC (.str "o")) (dC (.str "x"))) [5])) dNil)) dNil))))
    (dFrz 3 (zo9 (zf 3)))))
theorem zt8 : ∀ ds G Q, zep ds G Q → ds.length = 3 := fun ds G Q ⟨c, z, _, e, _⟩ => by rw [e]; rfl
theorem ztw : ∀ ds G Q, zep ds G Q → zmy { nx := fun _ G' => Q .non G', rt := Q } (zav zh0 ds) G := fun ds G Q h => by
  obtain ⟨c, lo, hi, rfl, hne, B, q⟩ := h
  simp_arith only [zmy, zh0]
  intro p2 hp2
  simp_arith only [dFor, zcn]
  refine zfd (by decide) rfl ?_
  refine zfd (by decide) rfl ?_
  simp_arith only [true_and]
  obtain ⟨⟨a1, a2⟩, a3, a4⟩ := B.a
  obtain ⟨⟨b1, b2⟩, b3, b4⟩ := B.b
  refine ⟨⟨by omega, by omega, by omega⟩, ?_⟩
  refine ⟨fun i η G' => ∃ a b, η = [some (crD c), some (e2 lo), some (e2 hi), some (.ref p2), a, b] ∧ G' = up G p2 (.lst (((ziq (clF c) lo hi).take i).map D.str)), ⟨_, _, rfl, rfl⟩, fun _ _ _ _ => trivial, ?_, ?_⟩
  · rintro i d η G' hd ⟨a, b, rfl, rfl⟩
    obtain ⟨y, hy, rfl⟩ := zcq hd
    have hyl := (List.getElem?_eq_some_iff.mp hy).1
    rw [za1] at hyl
    have gy : (ziq (clF c) lo hi)[i]? = some (zof (clF c) lo.1 hi.1 y) := by
      unfold ziq
      rw [List.getElem?_map, hy]
      rfl
    simp_arith only [true_and]
    refine ⟨by simp only [tyD, zo], rfl, ?_⟩
    refine zjt (xs := za5 lo.1 (hi.1 + 1)) (f := .int) (fun x => .str (txt [clF c x y])) (by rw [za1]; omega) (fun R r => ?_) (fun x hx G1 A kk => ?_) fun w1 hw1 => ?_
    · simp_arith only [zcn]
      refine zfd (by decide) rfl ?_
      refine zfd (by decide) rfl ?_
      simp_arith only [true_and]
      exact ⟨⟨by omega, by omega, by omega⟩, r⟩
    · simp_arith only [true_and]
      refine ⟨c, (x, y), rfl, hne, ?_⟩
      unfold clF at kk
      by_cases hb : clear c (x, y) = true
      · rw [hb] at kk ⊢
        simp_arith only [true_and]
        exact kk
      · rw [Bool.not_eq_true] at hb
        rw [hb] at kk ⊢
        simp_arith only [true_and]
        exact kk
    · simp_arith only [zo, zc8 hw1, DO.tree]
      refine zvo (F := clF c) (lo := lo.1) (hi := hi.1) (y := y) (by omega) rfl ?_
      refine (zll (p := p2) (y := .str (zof (clF c) lo.1 hi.1 y)) zo (zb0 (by rw [List.length_map, List.length_take]; omega)) ?_).2
      rw [zfe]
      refine ⟨_, (by repeat (first | exact Le.nil | apply Le.keep | apply Le.drop)), _, _, rfl, ?_⟩
      rw [zho gy, List.map_append]
      rfl
  · rintro η G' ⟨a, b, rfl, rfl⟩
    have el : (List.map D.int (za5 lo.2 (hi.2 + 1))).length = (ziq (clF c) lo hi).length := by
      unfold ziq
      rw [List.length_map, List.length_map]
    rw [el, List.take_length]
    simp_arith only [zo, zc8 hp2, DO.tree]
    exact q
/-- how many of a belief have their feet over a place -/
def zvp (c : Cr) (bel : List Pt) (z : Int × Int) : Nat := (bel.filter fun st => decide (zd6 c.foot st = z)).length
theorem zqp {α β : Type} [DecidableEq β] (f : α → β) (a : β) : ∀ L : List α, (L.map f).count a = (L.filter fun x => decide (f x = a)).length
  | [] => rfl
  | x :: L => by
    have ih := zqp f a L
    rw [List.map_cons, List.count_cons, ih, List.filter_cons]
    by_cases h : f x = a
    · simp [h]
    · simp [h]
def blF (c : Cr) (bel : List Pt) (x y : Int) : Nat := sgC (zvp c bel (x, y))
def zdz : DRn := fun ds G Q => ∃ (c : Cr) (bel : List Pt) (lo hi : Int × Int), ds = [crD c, eT e3 bel, e2 lo, e2 hi] ∧ bel.length ≤ 1000 ∧ Bds lo hi ∧ Q (.nd .lst ((ziq (blF c bel) lo hi).map D.str)) G
abbrev zgw : List Str := ["craft", "belief", "lows", "highs", "many", "standing", "cell", "found", "y", "x"]
def zlf : DTS :=
    (dSeq (dAsg z2v (zn 4))
    (dSeq (dFor (zd4 (zf 1)) (zn 5)
    (dSeq (dAsg (zp5 CA.Craft "cell_below" zae (zf 0) (zd (zf 5) dNil)) (zn 6))
    (dAsg (dOp dAdd (dM "dict" zzd (zf 4) (zd (zf 6) (zd (dC (.int 0)) dNil))) (dC (.int 1))) (zp3 (zf 4) (zf 6) dSet))))
    (dFrz 4 (dSeq (dAsg (zk8 dNil) (zn 7))
    (dSeq (dFor (zcn (zd (dOp dIx (zf 2) (dC (.int 1))) (zd (dOp dAdd (dOp dIx (zf 3) (dC (.int 1))) (dC (.int 1))) dNil))) (zn 8)
    (zib (dM "list" zf9 (zf 7) (zd (dM "str" zzq (dC (.str "")) (zd (dFz (dLc (zcn (zd (dOp dIx (zf 2) (dC (.int 0))) (zd (dOp dAdd (dOp dIx (zf 3) (dC (.int 0))) (dC (.int 1))) dNil))) (zn 9) dYes (dCB ze1 (zd (dM "dict" zzd (zf 4) (zd (dTup (zd (zf 9) (zd (zf 8) dNil))) (zd (dC (.int 0)) dNil))) dNil)) [9])) dNil)) dNil))))
    (dFrz 7 (zo9 (zf 7))))))))
theorem zti : ∀ ds G Q, zdz ds G Q → ds.length = 4 := fun ds G Q ⟨c, z, _, _, e, _⟩ => by rw [e]; rfl
theorem zr9 : ∀ ds G Q, zdz ds G Q → zlf { nx := fun _ G' => Q .non G', rt := Q } (zav zgw ds) G := fun ds G Q h => by
  obtain ⟨cr, bel, lo, hi, rfl, hl, B, q⟩ := h
  simp_arith only [zlf, zgw, z2v]
  intro p hp
  simp_arith only [dFor, zd4, eT]
  refine ⟨fun i η G' => ∃ kvs a b, η = [some (crD cr), some (.nd .tup (bel.map e3)), some (e2 lo), some (e2 hi), some (.ref p), a, b, none, none, none] ∧ G' = up G p (.dN (enc DL.k2 .int kvs)) ∧ Cnt kvs ((bel.take i).map (zd6 cr.foot)), ⟨[], none, none, rfl, rfl, Cnt.nil⟩, fun _ _ _ _ => trivial, ?_, ?_⟩
  · rintro i d η G' hd ⟨kvs, a, b, rfl, rfl, hk⟩
    obtain ⟨st, hst, rfl⟩ := zcq hd
    have hil := (List.getElem?_eq_some_iff.mp hst).1
    have hle := hk.le
    rw [List.length_map, List.length_take] at hle
    simp_arith only [zp5]
    refine ⟨z0s (by decide +kernel), ?_⟩
    refine ⟨cr, st, rfl, ?_⟩
    simp_arith only [true_and]
    refine zri tk2 (a := zd6 cr.foot st) (kvs := kvs) (z := 0) (z0b zo) (z6n zo) ?_
    simp_arith only [true_and]
    refine z2s tk2 (a := zd6 cr.foot st) (f := D.int) zo (zb0 (by omega)) ?_
    rw [zfe]
    refine ⟨_, (by repeat (first | exact Le.nil | apply Le.keep | apply Le.drop)), _, _, _, rfl, rfl, ?_⟩
    rw [zho hst, List.map_append]
    exact hk.step _
  · rintro η G' ⟨kvs, a, b, rfl, rfl, hk⟩
    rw [List.length_map, List.take_length] at hk
    have hz : ∀ z, (aget kvs z).getD 0 = (zvp cr bel z : Int) := fun z => by
      have e := hk.at_ z
      rw [zqp (zd6 cr.foot) z bel] at e
      rw [e]
      show _ = ((zvp cr bel z : Nat) : Int)
      change (if zvp cr bel z = 0 then none else some ((zvp cr bel z : Nat) : Int)).getD 0 = _
      by_cases h0 : zvp cr bel z = 0
      · rw [if_pos h0, h0]; rfl
      · rw [if_neg h0]; rfl
    simp_arith only [zo, zc8 hp, z2l]
    intro p2 hp2
    simp_arith only [zcn]
    refine zfd (by decide) rfl ?_
    refine zfd (by decide) rfl ?_
    simp_arith only [true_and]
    obtain ⟨⟨a1, a2⟩, a3, a4⟩ := B.a
    obtain ⟨⟨b1, b2⟩, b3, b4⟩ := B.b
    refine ⟨⟨by omega, by omega, by omega⟩, ?_⟩
    refine ⟨fun i η G' => ∃ u v a b, η = [some (crD cr), some (.nd .tup (bel.map e3)), some (e2 lo), some (e2 hi), some (eD DL.k2 .int kvs), u, v, some (.ref p2), a, b] ∧ G' = up G p2 (.lst (((ziq (blF cr bel) lo hi).take i).map D.str)), ⟨_, _, _, _, rfl, rfl⟩, fun _ _ _ _ => trivial, ?_, ?_⟩
    · rintro i d η G' hd ⟨u, v, a, b, rfl, rfl⟩
      obtain ⟨y, hy, rfl⟩ := zcq hd
      have hyl := (List.getElem?_eq_some_iff.mp hy).1
      rw [za1] at hyl
      have gy : (ziq (blF cr bel) lo hi)[i]? = some (zof (blF cr bel) lo.1 hi.1 y) := by
        unfold ziq
        rw [List.getElem?_map, hy]
        rfl
      simp_arith only [true_and]
      refine ⟨by simp only [tyD, zo], rfl, ?_⟩
      refine zjt (xs := za5 lo.1 (hi.1 + 1)) (f := .int) (fun x => .str (txt [blF cr bel x y])) (by rw [za1]; omega) (fun R r => ?_) (fun x hx G1 A kk => ?_) fun w1 hw1 => ?_
      · simp_arith only [zcn]
        refine zfd (by decide) rfl ?_
        refine zfd (by decide) rfl ?_
        simp_arith only [true_and]
        exact ⟨⟨by omega, by omega, by omega⟩, r⟩
      · simp_arith only [true_and]
        refine zri tk2 (a := (x, y)) (kvs := kvs) (z := 0) (z2g _ _ _ _) rfl ?_
        rw [hz]
        exact ⟨_, rfl, by omega, kk⟩
      · simp_arith only [zo, zc8 hw1, DO.tree]
        refine zvo (F := blF cr bel) (lo := lo.1) (hi := hi.1) (y := y) (by omega) rfl ?_
        refine (zll (p := p2) (y := .str (zof (blF cr bel) lo.1 hi.1 y)) zo (zb0 (by rw [List.length_map, List.length_take]; omega)) ?_).2
        rw [zfe]
        refine ⟨_, (by repeat (first | exact Le.nil | apply Le.keep | apply Le.drop)), _, _, _, _, rfl, ?_⟩
        rw [zho gy, List.map_append]
        rfl
    · rintro η G' ⟨u, v, a, b, rfl, rfl⟩
      have el : (List.map D.int (za5 lo.2 (hi.2 + 1))).length = (ziq (blF cr bel) lo hi).length := by
        unfold ziq
        rw [List.length_map, List.length_map]
      rw [el, List.take_length]
      simp_arith only [zo, zc8 hp2, DO.tree]
      exact q
end M
namespace M
open PySem PySem.Spec PyProof.Rows L2 DL
variable [CA]
def figs : List Nat := [49, 50, 51, 52, 53, 54, 55, 56, 57]
def badC (c : Nat) : Bool := decide (c ≠ 46) && !decide (c ∈ figs)
def badR (n0 : Nat) (i : Nat) (l : List Nat) : Bool := decide (l = []) || (decide (l.length > 100) || (decide (l.length ≠ n0) || decide (i ≥ 100)))
def zso : Nat → List Nat → Option Nat
  | _, [] => none
  | x, c :: r => if badC c then some x else zso (x + 1) r
def zj2 (n0 : Nat) : Nat → List (List Nat) → Option (Nat × Nat)
  | _, [] => none
  | i, l :: r => if badR n0 i l then some (i, 0) else match zso 0 l with
    | some x => some (i, x)
    | none => zj2 n0 (i + 1) r
def zfb (y : Nat) : Nat → List Nat → List Pt
  | _, [] => []
  | x, c :: r => if c = 46 then zfb y (x + 1) r else ((x : Int), (y : Int), (c : Int) - 48) :: zfb y (x + 1) r
def za8 : Nat → List (List Nat) → List Pt
  | _, [] => []
  | i, l :: r => zfb i 0 l ++ za8 (i + 1) r
structure RdP (x : Str) (rows : List (List Nat)) : Prop where
  sp : Txt.split x "\n" = rows.map txt
  xl : x.length ≤ 10000
  ne : rows ≠ []
  few : rows.length ≤ 1000
  sg : ∀ l ∈ rows, l.length ≤ 10000 ∧ ∀ c ∈ l, c < 1114112
  pl : (za8 0 rows).length ≤ 100
def zbv : DRnX := fun ds G Q E => ∃ (x : Str) (rows : List (List Nat)), ds = [.str x] ∧ RdP x rows ∧
  (∀ l w, zj2 (rows.headD []).length 0 rows = some (l, w) → ∀ (p : Addr) (xs : List D), G p = none → E ⟨CA.BadText, [("line", .int (l : Nat)), ("word", .int (w : Nat))]⟩ (up G p (.lst xs))) ∧
  (zj2 (rows.headD []).length 0 rows = none → (∀ p ∈ za8 0 rows, okPt (0 - 1000000) 1000000 p) ∧ Q (gD (srtT e3 (za8 0 rows))) G)
abbrev zdp : List Str := ["text", "rows", "found", "line", "row", "at", "sign"]
def zil (U : DXK) : DTS :=
    (dSeq (dPar 1 2 (zd (dFz (dM "str" z6r (zf 0) (zd (dC (.str "\n")) dNil))) (zd (zk8 dNil) dNil)))
    (dSeq (dFor (ztk (zd (zf 1) dNil)) (zf6 (zag (zn 3) (zag (zn 4) zgc)) 2)
    (dSeq (dIfS (dOr (zan (dOp dEq (zf 4) (dC (.str "")))) (dOr (zan (dOp dGt (dCB dLen (zd (zf 4) dNil)) (dC (.int 100)))) (dOr (zan (dOp dNe (dCB dLen (zd (zf 4) dNil)) (dCB dLen (zd (dOp dIx (zf 1) (dC (.int 0))) dNil)))) (zan (dOp dGe (zf 3) (dC (.int 100)))))))
    (zm2 CA.BadText "line" "word" U (zd (zf 3) (zd (dC (.int 0)) dNil)))
    zck)
    (dFor (zs5 (zd (zf 4) dNil)) (zf6 (zag (zn 5) (zag (zn 6) zgc)) 2)
    (dSeq (dIfS (dAnd (zan (dOp dNe (zf 6) (dC (.str ".")))) (zan (dOp (dInS true) (zf 6) (dC (.str "123456789")))))
    (zm2 CA.BadText "line" "word" U (zd (zf 3) (zd (zf 5) dNil)))
    zck)
    (dIfS (zan (dOp dNe (zf 6) (dC (.str "."))))
    (zib (dM "list" zf9 (zf 2) (zd (dTup (zd (zf 5) (zd (zf 3) (zd (dCB z8u (zd (zf 6) dNil)) dNil)))) dNil)))
    zck)))))
    (dFrz 2 (dRet (dFz (zg0 CA.Ground z4 (zd (zf 2) dNil)))))))
theorem zsk : ∀ ds G Q E, zbv ds G Q E → ds.length = 1 := fun ds G Q E ⟨x, _, e, _⟩ => by rw [e]; rfl
theorem zhu {l : List Nat} (h : ∀ c ∈ l, c < 1114112) : zax (.str (txt l)) = true := by
  show PyData.strOk (txt l) = true
  unfold PyData.strOk
  rw [← Array.all_toList, zpo, List.all_eq_true]
  exact fun c hc => decide_eq_true (h c hc)
theorem zr7 : ("." : Str) = txt [46] := by decide +kernel
theorem zzi : ("" : Str) = txt [] := by decide +kernel
theorem ziy (x : Str) : (py (.str x)).depth ≤ 64 := Nat.zero_le _
theorem z0c {c : Nat} (h : c < 1114112) {G : DHp} {Q : DVK} (q : Q (.bl (decide (c ≠ 46))) G) : dNe (.str ⟨#[c]⟩) (.str ".") G Q := by
  refine zz7 (d := .str (txt [c])) (e := .str ".") (zhu fun d hd => by rw [List.mem_singleton.mp hd]; exact h) (by rw [zr7]; exact zhu fun d hd => by rw [List.mem_singleton.mp hd]; decide) (ziy _) (ziy _) (decide (c ≠ 46)) ?_ q
  rw [decide_eq_true_eq]
  show c ≠ 46 ↔ (D.str (txt [c])) ≠ (D.str ".")
  rw [zr7]
  refine not_congr ⟨fun e => by rw [e], fun e => ?_⟩
  have := z30 (D.str.inj e)
  exact (List.cons.inj this).1
theorem z9z {l : List Nat} (h : ∀ c ∈ l, c < 1114112) {G : DHp} {Q : DVK} (q : Q (.bl (decide (l = []))) G) : dEq (.str (txt l)) (.str "") G Q := by
  refine z34 (d := .str (txt l)) (e := .str "") (zhu h) (by rw [zzi]; exact zhu (fun _ h => nomatch h)) (ziy _) (ziy _) (decide (l = [])) ?_ q
  rw [decide_eq_true_eq]
  show l = [] ↔ (D.str (txt l)) = (D.str "")
  rw [zzi]
  exact ⟨fun e => by rw [e], fun e => z30 (D.str.inj e)⟩
theorem z5v : ("123456789" : Str).cps.toList = figs := by decide +kernel
theorem z2k {c : Nat} (h : c ∈ figs) : PySem.intText? (⟨#[c]⟩ : Str) = some ((c : Int) - 48) := by
  unfold figs at h
  simp only [List.mem_cons, List.not_mem_nil, or_false] at h
  rcases h with rfl | rfl | rfl | rfl | rfl | rfl | rfl | rfl | rfl <;> decide +kernel
theorem zwz {x : Str} {G : DHp} {Q : DVK} (h : x.length ≤ 1000000) (q : Q (.int x.length) G) : dLen [.str x] G Q := ⟨Nat.le_trans h (by rw [sizeLine_eq]; decide), q⟩
theorem zsw : ∀ ds G Q E, zbv ds G Q E → zil (fun x _ G' => E x G') { nx := fun _ G' => Q .non G', rt := Q } (zav zdp ds) G := fun ds G Q E h => by
  obtain ⟨x, rows, rfl, P, he, hq⟩ := h
  simp_arith only [zil, zdp]
  refine ⟨rfl, x, "\n", rfl, rfl, by decide +kernel, by rw [sizeLine_eq]; have := P.xl; omega, fun p hp => ?_⟩
  rw [P.sp]
  simp_arith only [zo, zc8 hp, DO.tree]
  intro p2 hp2
  have er : List.map D.str (List.map txt rows) = rows.map fun l => .str (txt l) := by rw [List.map_map]; rfl
  rw [er]
  have hd0 : ∃ l0 rest, rows = l0 :: rest := by
    cases hrows : rows with
    | nil => exact absurd hrows P.ne
    | cons l r => exact ⟨l, r, rfl⟩
  obtain ⟨l0, rest, e0⟩ := hd0
  have hn0 : (rows.headD []).length = l0.length := by rw [e0]; rfl
  rw [hn0] at he hq
  simp_arith only [dFor, ztk]
  refine ⟨fun i η G' => ∃ (Fd : List Pt) (a b c d : Option D), η = [some (.str x), some (.nd .lst (rows.map fun l => .str (txt l))), some (.ref p2), a, b, c, d] ∧ G' = up G p2 (.lst (Fd.map e3)) ∧ Fd ++ za8 i (rows.drop i) = za8 0 rows ∧ zj2 l0.length 0 rows = zj2 l0.length i (rows.drop i), ⟨[], none, none, none, none, rfl, rfl, by rw [List.nil_append]; rfl, rfl⟩, fun _ _ _ _ => trivial, ?_, ?_⟩
  · rintro i d η G' hd ⟨Fd, a, b, c, dd, rfl, rfl, hF, hE⟩
    obtain ⟨dx, hdx, rfl⟩ := zjg hd
    obtain ⟨l, hl, rfl⟩ := zcq hdx
    have hil := (List.getElem?_eq_some_iff.mp hl).1
    have hm := List.mem_of_getElem? hl
    obtain ⟨s1, s2⟩ := P.sg l hm
    have hdr : rows.drop i = l :: rows.drop (i + 1) := by
      rw [List.drop_eq_getElem_cons hil]
      congr 1
      exact (List.getElem?_eq_some_iff.mp hl).2
    rw [hdr] at hF hE
    simp_arith only [true_and]
    refine z9z s2 ?_
    have bad : badR l0.length i l = true → E ⟨CA.BadText, [("line", .int (i : Nat)), ("word", .int 0)]⟩ (up G p2 (.lst (Fd.map e3))) := fun hb => by
      refine he i 0 ?_ p2 _ hp2
      rw [hE]
      unfold zj2
      rw [if_pos hb]
    by_cases h1 : l = []
    · rw [decide_eq_true h1]
      simp_arith only [zm2]
      exact bad (by unfold badR; rw [decide_eq_true h1]; rfl)
    rw [decide_eq_false h1]
    simp_arith only [true_and]
    refine zwz (by rw [zh9]; omega) ?_
    rw [zh9]
    simp_arith only [true_and]
    by_cases h2 : l.length > 100
    · rw [if_pos (by first | omega | (simp; omega))]
      simp_arith only [zm2]
      exact bad (by unfold badR; rw [decide_eq_true h2, Bool.true_or, Bool.or_true])
    rw [if_neg (by first | omega | (simp; omega))]
    refine zwz (by rw [zh9]; omega) ?_
    rw [zh9]
    refine z2d (f := fun l => D.str (txt l)) (xs := rows) (i := 0) (x := l0) (by decide) (by rw [e0]; rfl) ?_
    refine zwz (by rw [zh9]; have := (P.sg l0 (by rw [e0]; exact List.mem_cons_self ..)).1; omega) ?_
    rw [zh9]
    simp_arith only [z63]
    by_cases h3 : l.length ≠ l0.length
    · rw [if_pos (by first | omega | (simp; omega))]
      simp_arith only [zm2]
      exact bad (by unfold badR; rw [decide_eq_true h3, Bool.true_or, Bool.or_true, Bool.or_true])
    rw [if_neg (by first | omega | (simp; omega))]
    by_cases h4 : i ≥ 100
    · rw [if_pos (by first | omega | (simp; omega))]
      simp_arith only [zm2]
      exact bad (by unfold badR; rw [decide_eq_true h4, Bool.or_true, Bool.or_true, Bool.or_true])
    rw [if_neg (by first | omega | (simp; omega))]
    have nb : badR l0.length i l = false := by
      unfold badR
      rw [decide_eq_false h1, decide_eq_false h2, decide_eq_false h3, decide_eq_false h4]
      rfl
    simp_arith only [dFor, zs5]
    have hPl := P.pl
    rw [show za8 i (l :: rows.drop (i + 1)) = zfb i 0 l ++ za8 (i + 1) (rows.drop (i + 1)) from rfl, ← List.append_assoc] at hF
    have hFl : (Fd ++ zfb i 0 l).length ≤ 100 := by
      have := congrArg List.length hF
      rw [List.length_append] at this
      omega
    have hEr : zj2 l0.length i (l :: rows.drop (i + 1)) = match zso 0 l with
        | some x => some (i, x)
        | none => zj2 l0.length (i + 1) (rows.drop (i + 1)) := by
      show (if badR l0.length i l then some (i, 0) else _) = _
      rw [nb]
      rfl
    refine ⟨txt l, rfl, fun j η G' => ∃ Fe c d, η = [some (.str x), some (.nd .lst (rows.map fun l => .str (txt l))), some (.ref p2), some (.int (i : Nat)), some (.str (txt l)), c, d] ∧ G' = up G p2 (.lst (Fe.map e3)) ∧ Fe ++ zfb i j (l.drop j) = Fd ++ zfb i 0 l ∧ zso 0 l = zso j (l.drop j), ⟨Fd, c, dd, rfl, rfl, rfl, rfl⟩, fun _ _ _ _ => trivial, ?_, ?_⟩
    · rintro j d η G' hd ⟨Fe, c, dd, rfl, rfl, hG, hR⟩
      obtain ⟨dx, hdx, rfl⟩ := zjg hd
      unfold sgnL at hdx
      rw [zpo] at hdx
      obtain ⟨ch, hch, rfl⟩ := zcq hdx
      have hjl := (List.getElem?_eq_some_iff.mp hch).1
      have hcm := List.mem_of_getElem? hch
      have hdj : l.drop j = ch :: l.drop (j + 1) := by
        rw [List.drop_eq_getElem_cons hjl]
        congr 1
        exact (List.getElem?_eq_some_iff.mp hch).2
      rw [hdj] at hG hR
      have hFe : Fe.length ≤ 100 := by
        have := congrArg List.length hG
        rw [List.length_append] at this
        omega
      simp_arith only [true_and]
      refine z0c (s2 ch hcm) ?_
      by_cases h46 : ch = 46
      · rw [decide_eq_false (by simpa using h46)]
        simp_arith only [true_and]
        refine z0c (s2 ch hcm) ?_
        rw [decide_eq_false (by simpa using h46)]
        simp_arith only [true_and]
        refine ⟨_, (by repeat (first | exact Le.nil | apply Le.keep | apply Le.drop)), Fe, _, _, rfl, rfl, ?_, ?_⟩
        · rw [← hG]
          show _ = Fe ++ (if ch = 46 then zfb i (j + 1) (l.drop (j + 1)) else _)
          rw [if_pos h46]
        · rw [hR]
          show (if badC ch then _ else _) = _
          rw [if_neg (by unfold badC; simp [h46])]
      · rw [decide_eq_true h46]
        simp_arith only [true_and]
        refine ⟨ch, "123456789", rfl, rfl, ?_⟩
        rw [z5v]
        by_cases hf : ch ∈ figs
        · rw [decide_eq_true hf]
          simp_arith only [true_and]
          refine z0c (s2 ch hcm) ?_
          rw [decide_eq_true h46]
          simp_arith only [true_and]
          refine ⟨by simp only [tyD, zo], ⟨#[ch]⟩, (ch : Int) - 48, rfl, z2k hf, (show 1 ≤ 640 by decide), ?_⟩
          refine (zll (p := p2) (y := e3 ((j : Int), (i : Int), (ch : Int) - 48)) zo (zb0 (by rw [List.length_map]; omega)) ?_).2
          rw [zfe]
          refine ⟨_, (by repeat (first | exact Le.nil | apply Le.keep | apply Le.drop)), Fe ++ [((j : Int), (i : Int), (ch : Int) - 48)], _, _, rfl, by rw [List.map_append]; rfl, ?_, ?_⟩
          · rw [← hG, List.append_assoc]
            show _ = Fe ++ (if ch = 46 then zfb i (j + 1) (l.drop (j + 1)) else _)
            rw [if_neg h46]
            rfl
          · rw [hR]
            show (if badC ch then _ else _) = _
            rw [if_neg (by unfold badC; simp [hf])]
        · rw [decide_eq_false hf]
          simp_arith only [zm2]
          refine he i j ?_ p2 _ hp2
          rw [hE, hEr, hR]
          show (match (if badC ch then some j else _) with | some x => some (i, x) | none => _) = _
          rw [if_pos (by unfold badC; simp [h46, hf])]
    · rintro η G' ⟨Fe, c, dd, rfl, rfl, hG, hR⟩
      have el : (zli (sgnL (txt l))).length = l.length := by
        rw [zk0]
        unfold sgnL
        rw [zpo, List.length_map]
      rw [el, List.drop_length] at hG hR
      rw [show zfb i l.length [] = [] from rfl, List.append_nil] at hG
      subst hG
      refine ⟨_, (by repeat (first | exact Le.nil | apply Le.keep | apply Le.drop)), Fd ++ zfb i 0 l, _, _, _, _, rfl, rfl, hF, ?_⟩
      rw [hE, hEr, hR]
      rfl
  · rintro η G' ⟨Fd, a, b, c, d, rfl, rfl, hF, hE⟩
    rw [zk0, List.length_map, List.drop_length] at hF hE
    have hF : Fd = za8 0 rows := by simpa [za8] using hF
    obtain ⟨hok, hq⟩ := hq hE
    subst hF
    simp_arith only [zo, zc8 hp2, DO.tree, zg0]
    intro x3 hx3
    refine ⟨x3, za8 0 rows, rfl, rfl, zo, P.pl, hok, ?_⟩
    rw [zfe]
    refine ⟨rfl, ?_⟩
    simp_arith only [zo, zc8 hx3, DO.tree]
    exact hq
end M
namespace M
open PySem PySem.Spec PyProof.Rows L2 DL
variable [CA]
def zel : DRn := fun ds G Q => ∃ (x : Str) (rows : List (List Nat)) (l w : Nat), ds = [.str x] ∧ RdP x rows ∧ zj2 (rows.headD []).length 0 rows = some (l, w) ∧ ∀ (p : Addr) (xs : List D), G p = none → Q (e2 ((l : Nat), (w : Nat))) (up G p (.lst xs))
abbrev zjs : List Str := ["text", "fault"]
def zm5 : DTS :=
    (dSeq (z7w CA.BadText [] 1 (fun _ _ _ => False) (fun U1 => (zib (dCX zbv U1 (zd (zf 0) dNil))))
    (fun a1 x1 => (dRet (dTup (zd (dXF a1 CA.BadText x1 "line" (zf 1)) (zd (dXF a1 CA.BadText x1 "word" (zf 1)) dNil))))))
    (dRet (dC .non)))
theorem zt3 : ∀ ds G Q, zel ds G Q → ds.length = 1 := fun ds G Q ⟨x, _, _, _, e, _⟩ => by rw [e]; rfl
theorem zt7 : ∀ ds G Q, zel ds G Q → zm5 { nx := fun _ G' => Q .non G', rt := Q } (zav zjs ds) G := fun ds G Q h => by
  obtain ⟨x, rows, l, w, rfl, P, he, q⟩ := h
  simp_arith only [zm5, zjs, z7w, dCX, dXF]
  refine ⟨x, rows, rfl, P, fun l' w' e p xs hp => ?_, fun e => by rw [he] at e; cases e⟩
  rw [he] at e
  obtain ⟨rfl, rfl⟩ := Prod.mk.inj (Option.some.inj e)
  refine .inl ⟨rfl, fun a => ?_⟩
  refine ⟨rfl, .int l, rfl, ?_⟩
  simp_arith only [true_and]
  refine ⟨.int w, rfl, ?_⟩
  exact q p xs hp
end M
namespace M
open PySem PySem.Spec PyProof.Rows L2 DL
variable [CA]
def szs (cs : List Pt) (z : Int × Int) : List Int := (cs.filter fun p => decide ((p.1, p.2.1) = z)).map (·.2.2)
theorem zzl (z : Int × Int) : ∀ (l : List Pt) (m : Int), let r := l.foldl (fun m p => if (p.1, p.2.1) = z then mx p.2.2 m else m) m
    m ≤ r ∧ (∀ y ∈ szs l z, y ≤ r) ∧ (r = m ∨ r ∈ szs l z)
  | [], m => ⟨Int.le_refl _, fun y hy => (nomatch hy), .inl rfl⟩
  | p :: l, m => by
    have ih := zzl z l (if (p.1, p.2.1) = z then mx p.2.2 m else m)
    dsimp only at ih ⊢
    rw [List.foldl_cons]
    generalize l.foldl (fun m p => if (p.1, p.2.1) = z then mx p.2.2 m else m) (if (p.1, p.2.1) = z then mx p.2.2 m else m) = r at ih
    obtain ⟨h1, h2, h3⟩ := ih
    unfold szs at *
    by_cases e : (p.1, p.2.1) = z
    · rw [if_pos e] at h1 h3
      rw [List.filter_cons_of_pos (by simpa using e), List.map_cons]
      have hm : m ≤ mx p.2.2 m ∧ p.2.2 ≤ mx p.2.2 m ∧ (mx p.2.2 m = m ∨ mx p.2.2 m = p.2.2) := by unfold mx; split <;> omega
      obtain ⟨m1, m2, m3⟩ := hm
      refine ⟨by omega, fun y hy => ?_, ?_⟩
      · rcases List.mem_cons.mp hy with rfl | hy
        · omega
        · exact h2 y hy
      · rcases h3 with h3 | h3
        · rcases m3 with m3 | m3
          · exact .inl (by omega)
          · exact .inr (List.mem_cons.mpr (.inl (by omega)))
        · exact .inr (List.mem_cons_of_mem _ h3)
    · rw [if_neg e] at h1 h3
      rw [List.filter_cons_of_neg (by simpa using e)]
      exact ⟨h1, h2, h3⟩
theorem zwg {cs : List Pt} {z : Int × Int} {m : Int} (h0 : 0 < m) (hm : m ∈ szs cs z) (hmax : ∀ y ∈ szs cs z, y ≤ m) : szAt cs z = m := by
  obtain ⟨h1, h2, h3⟩ := zzl z cs 0
  have a1 := h2 m hm
  change m ≤ szAt cs z at a1
  rcases h3 with h3 | h3
  · change szAt cs z = 0 at h3
    omega
  · have := hmax _ h3
    change szAt cs z ≤ m at this
    omega
theorem zs7 {cs : List Pt} {z : Int × Int} (h : szs cs z = []) : szAt cs z = 0 := by
  obtain ⟨h1, h2, h3⟩ := zzl z cs 0
  rcases h3 with h3 | h3
  · exact h3
  · rw [h] at h3
    cases h3
theorem zr5 {n : Int} (h0 : 0 < n) (h1 : n < 10) : sgC n = (48 + n).toNat := by
  unfold sgC
  rw [if_neg (by omega), if_pos h1]
theorem z9y (n : Int) (h : 0 ≤ n) : sgC n < 1114112 := by
  unfold sgC
  split
  · decide
  · split
    · omega
    · decide
theorem zsg {l : List Nat} (h : ∀ c ∈ l, c < 1114112) {G : DHp} {Q : DVK} (q : Q (.bl false) G) : dNe (.str (txt l)) (.str (txt l)) G Q :=
  zz7 (d := .str (txt l)) (e := .str (txt l)) (zhu h) (zhu h) (ziy _) (ziy _) false ⟨fun z => (by cases z), fun z => absurd rfl z⟩ q
theorem z0a {lo hi x : Int} (h0 : lo ≤ x) (h1 : x < hi) : (za5 lo hi)[(x - lo).toNat]? = some x := by
  unfold za5
  rw [List.getElem?_map, List.getElem?_range (by omega)]
  show some (lo + ((x - lo).toNat : Int)) = some x
  congr 1
  omega
/-- one sign of a drawing -/
theorem zwp {F : Int → Int → Nat} {lo hi : Int × Int} {x y : Int} (B : Bds lo hi) (hx : lo.1 ≤ x ∧ x ≤ hi.1) (hy : lo.2 ≤ y ∧ y ≤ hi.2) {G : DHp} {Q : DVK} (q : Q (.str (txt [F x y])) G) :
    dIx (.nd .lst ((ziq F lo hi).map D.str)) (.int (y - lo.2)) G fun d G1 => dIxS d (.int (x - lo.1)) G1 Q := by
  refine z2d (f := D.str) (xs := ziq F lo hi) (i := y - lo.2) (x := zof F lo.1 hi.1 y) (by omega) ?_ ?_
  · unfold ziq
    rw [List.getElem?_map, z0a hy.1 (by omega)]
    rfl
  · have B1 := B.a
    have B2 := B.b
    have hl : (za5 lo.1 (hi.1 + 1)).length = (hi.1 + 1 - lo.1).toNat := za1 _ _
    refine ⟨zof F lo.1 hi.1 y, x - lo.1, F x y, rfl, rfl, ?_, ?_, q⟩
    · unfold zof
      rw [zh9, List.length_map, hl, sizeLine_eq]
      omega
    · unfold zof
      rw [zpo]
      have e : ((za5 lo.1 (hi.1 + 1)).map fun x => F x y)[(x - lo.1).toNat]? = some (F x y) := by
        rw [List.getElem?_map, z0a hx.1 (by omega)]
        rfl
      unfold atI
      have hn : ixN ((za5 lo.1 (hi.1 + 1)).map fun x => F x y).length (x - lo.1) = some (x - lo.1).toNat := by
        have hlt := (List.getElem?_eq_some_iff.mp e).1
        unfold ixN
        first
          | (rw [if_pos (by omega)]; done)
          | (rw [if_neg (by omega), if_pos (by omega)]; done)
          | (split <;> first | omega | (split <;> first | rfl | omega))
      rw [hn]
      exact e
end M
namespace M
open PySem PySem.Spec PyProof.Rows L2 DL
variable [CA]
def zrh : D → D → Bool → Prop := fun d e b => ∃ cs cs' : List Pt, d = gD cs ∧ e = gD cs' ∧ b = decide (cs = cs')
theorem z1i {d e : D} {b : Bool} {G : DHp} {Q : DVK} (p : zrh d e b) (q : Q (.bl b) G) : zar [d, e] G Q := by
  obtain ⟨cs, cs', rfl, rfl, rfl⟩ := p
  exact ⟨cs, cs', rfl, rfl, q⟩
theorem zz6 {d e : D} {b : Bool} (p : zrh d e b) : ∃ fs ds gs es, d = .nd (.ins CA.Ground fs) ds ∧ e = .nd (.ins CA.Ground gs) es := by
  obtain ⟨cs, cs', rfl, rfl, _⟩ := p
  exact ⟨_, _, _, _, rfl, rfl⟩
abbrev ztt : List Str := ["script", "draw", "craft", "belief", "craters", "lows", "highs", "y", "x", "sizes", "sign", "clear", "feet", "at", "row", "standing", "width", "height", "rows", "due", "ground", "wrong", "u", "v", "size", "one", "column", "text"]
def zn2 : DTS :=
    (dFor (zcn (zd (dOp dIx (zf 5) (dC (.int 1))) (zd (dOp dAdd (dOp dIx (zf 6) (dC (.int 1))) (dC (.int 1))) dNil))) (zn 7)
    (dFor (zcn (zd (dOp dIx (zf 5) (dC (.int 0))) (zd (dOp dAdd (dOp dIx (zf 6) (dC (.int 0))) (dC (.int 1))) dNil))) (zn 8)
    (dSeq (dAsg (dLc (zd4 (zf 4)) (zf6 (zag (zn 22) (zag (zn 23) (zag (zn 24) zgc))) 3) (zan (dOp dEq (dTup (zd (zf 22) (zd (zf 23) dNil))) (dTup (zd (zf 8) (zd (zf 7) dNil))))) (zf 24) [22, 23, 24]) (zn 9))
    (dFrz 9 (dSeq (dAsg (dIf (zan (dOp dNe (zf 9) (zha dNil))) (dCB z1p (zd (dCB z7r (zd (zf 9) dNil)) dNil)) (dC (.str "."))) (zn 10))
    (dSeq (dAsg (dCB dAll (zd (dFz (dLc (zd4 (zf 4)) (zf6 (zag (zn 22) (zag (zn 23) (zag (zn 24) zgc))) 3) dYes (dOp dGt (dCB z1s (zd (dCB dAbs (zd (dOp dSub (zf 8) (zf 22)) dNil)) (zd (dCB dAbs (zd (dOp dSub (zf 7) (zf 23)) dNil)) dNil))) (dOp dAdd (dFld CA.Craft "room" (zf 2)) (zf 24))) [22, 23, 24])) dNil)) (zn 11))
    (dSeq (dAsg (dCB dLen (zd (dFz (dLc (zd4 (zf 3)) (zn 25) (zan (dOp dEq (zp5 CA.Craft "cell_below" zae (zf 2) (zd (zf 25) dNil)) (dTup (zd (zf 8) (zd (zf 7) dNil))))) (zf 25) [25])) dNil)) (zn 12))
    (dSeq (dPar 13 14 (zd (dOp dSub (zf 8) (dOp dIx (zf 5) (dC (.int 0)))) (zd (dOp dSub (zf 7) (dOp dIx (zf 5) (dC (.int 1)))) dNil)))
    (dSeq (dIfS (dOr (zan (dOp dNe (dOp dIxS (dOp dIx (dCB zcd (zd (dFld CA.Sky "ground" (dOp dIx (dFld CA.Craft "skies" (zf 2)) (dC (.int 0)))) (zd (zf 5) (zd (zf 6) dNil)))) (zf 14)) (zf 13)) (zf 10))) (zan (dOp dNe (dCB zc5 (zd (zf 2) (zd (dTup (zd (zf 8) (zd (zf 7) dNil))) dNil))) (zf 11))))
    (dRet (dC (.bl false)))
    zck)
    (dSeq (dIfS (zan (dOp dNe (dOp dIxS (dOp dIx (dCB zep (zd (zf 2) (zd (zf 5) (zd (zf 6) dNil)))) (zf 14)) (zf 13)) (dIf (zan (zf 11)) (dC (.str "o")) (dC (.str "x")))))
    (dRet (dC (.bl false)))
    zck)
    (dIfS (zan (dOp dNe (dOp dIxS (dOp dIx (dCB zdz (zd (zf 2) (zd (zf 3) (zd (zf 5) (zd (zf 6) dNil))))) (zf 14)) (zf 13)) (dIf (zan (dOp dEq (zf 12) (dC (.int 0)))) (dC (.str ".")) (dCB z1p (zd (zf 12) dNil)))))
    (dRet (dC (.bl false)))
    zck)))))))))))
def zpx : DTS :=
    (dFor (zd4 (zf 3)) (zn 15)
    (dIfS (zan (dOp dNe (dCB zc5 (zd (zf 2) (zd (zp5 CA.Craft "cell_below" zae (zf 2) (zd (zf 15) dNil)) dNil))) (zp5 CA.Craft "is_safe" zcp (zf 2) (zd (zf 15) dNil))))
    (dRet (dC (.bl false)))
    zck))
def zpm : DTS :=
    (dFor (ze8 (zd (zf 17) dNil)) (zn 14)
    (zib (dM "list" zf9 (zf 18) (zd (dM "str" zzq (dC (.str "")) (zd (dFz (dLc (ze8 (zd (zf 16) dNil)) (zn 26) dYes (dCB z5 (zd (zf 1) (zd (zha (zd (dC (.str ".")) (zd (dC (.str ".")) (zd (dC (.str "1")) (zd (dC (.str "9")) (zd (dC (.str "4")) dNil)))))) dNil))) [26])) dNil)) dNil))))
def zsj : DTS :=
    (dFor (ztk (zd (zf 18) dNil)) (zf6 (zag (zn 7) (zag (zn 14) zgc)) 2)
    (dAsg (dOp dAdd (zf 19) (dFz (dLc (zs5 (zd (zf 14) dNil)) (zf6 (zag (zn 8) (zag (zn 10) zgc)) 2) (zan (dOp dNe (zf 10) (dC (.str ".")))) (dTup (zd (zf 8) (zd (zf 7) (zd (dCB z8u (zd (zf 10) dNil)) dNil)))) [8, 10]))) (zn 19)))
def zw7 : DTS :=
    (dIfS (dOr (zan (dOp (dEqI zrh true) (zf 20) (dFz (zg0 CA.Ground z4 (zd (zf 19) dNil))))) (zan (dOp dNe (dFz (dCB z7o (zd (dCB zcd (zd (zf 20) (zd (dTup (zd (dC (.int 0)) (zd (dC (.int 0)) dNil))) (zd (dTup (zd (dOp dSub (zf 16) (dC (.int 1))) (zd (dOp dSub (zf 17) (dC (.int 1))) dNil))) dNil)))) dNil))) (zf 18))))
    (dRet (dC (.bl false)))
    zck)
def zn1 : DTS :=
    (dAsg (zha (zd (dTup (zd (dC (.str "")) (zd (dTup (zd (dC (.int 0)) (zd (dC (.int 0)) dNil))) dNil))) (zd (dTup (zd (dC (.str "..\n...")) (zd (dTup (zd (dC (.int 1)) (zd (dC (.int 0)) dNil))) dNil))) (zd (dTup (zd (dC (.str "..\n")) (zd (dTup (zd (dC (.int 1)) (zd (dC (.int 0)) dNil))) dNil))) (zd (dTup (zd (dC (.str ".1\n.0")) (zd (dTup (zd (dC (.int 1)) (zd (dC (.int 1)) dNil))) dNil))) (zd (dTup (zd (dC (.str "x")) (zd (dTup (zd (dC (.int 0)) (zd (dC (.int 0)) dNil))) dNil))) (zd (dTup (zd (dC (.str ".+")) (zd (dTup (zd (dC (.int 0)) (zd (dC (.int 1)) dNil))) dNil))) (zd (dTup (zd (dOp zaaq (dC (.str ".")) (dC (.int 101))) (zd (dTup (zd (dC (.int 0)) (zd (dC (.int 0)) dNil))) dNil))) dNil)))))))) (zn 21))
def zrw : DTS :=
    (dRet (zk1 (dCB dAll (zd (dFz (dLc (zd4 (zf 21)) (zf6 (zag (zn 27) (zag (zn 19) zgc)) 2) dYes (dOp dEq (dFgE (dCB zel (zd (zf 27) dNil))) (zf 19)) [27, 19])) dNil)) (dOp dEq (dCB zcd (zd (dFz (zg0 CA.Ground z4 (zd (zha (zd (dTup (zd (dC (.int 0)) (zd (dC (.int 0)) (zd (dC (.int 12)) dNil)))) (zd (dTup (zd (dC (.int 0)) (zd (dC (.int 0)) (zd (dC (.int 3)) dNil)))) dNil))) dNil))) (zd (dTup (zd (dC (.int 0)) (zd (dC (.int 0)) dNil))) (zd (dTup (zd (dC (.int 1)) (zd (dC (.int 0)) dNil))) dNil)))) (zha (zd (dC (.str "+.")) dNil)))))
def z7a : DTS :=
    (dSeq (dAsg (zk8 (zd (zf 0) (zd (dC (.int 0)) dNil))) (zn 1))
    (dSeq (dAsg (dCB zeh (zd (zf 1) dNil)) (zn 2))
    (dSeq (dPar 3 4 (zd (dCB zdu (zd (zf 1) (zd (zf 2) dNil))) (zd (dFld CA.Ground "craters" (dFld CA.Sky "ground" (dOp dIx (dFld CA.Craft "skies" (zf 2)) (dC (.int 0))))) dNil)))
    (dSeq (dPar 5 6 (zd (dTup (zd (dNeg (dC (.int 3))) (zd (dNeg (dC (.int 2))) dNil))) (zd (dTup (zd (dOp dAdd (dC (.int 2)) (dCB zi (zd (zf 1) (zd (dC (.int 3)) dNil)))) (zd (dC (.int 3)) dNil))) dNil)))
    (dSeq zn2
    (dSeq zpx
    (dSeq (dPar 16 17 (zd (dOp dAdd (dC (.int 1)) (dCB zi (zd (zf 1) (zd (dC (.int 5)) dNil)))) (zd (dOp dAdd (dC (.int 1)) (dCB zi (zd (zf 1) (zd (dC (.int 4)) dNil)))) dNil)))
    (dSeq (dAsg (zk8 dNil) (zn 18))
    (dSeq zpm
    (dFrz 18 (dSeq (dAsg (zha dNil) (zn 19))
    (dSeq zsj
    (dSeq (dAsg (dCX zbv (fun _ _ _ => False) (zd (dM "str" zzq (dC (.str "\n")) (zd (zf 18) dNil)) dNil)) (zn 20))
    (dSeq zw7
    (dSeq zn1
    zrw)))))))))))))))
structure LwP (c : Cr) (bel : List Pt) (lo hi : Int × Int) : Prop where
  dr : DrC c
  bl : bel.length ≤ 5
  bs : ∀ st ∈ bel, 0 ≤ st.1 ∧ st.1 ≤ 3
  bd : Bds lo hi
def st7 (ns : List Int) (a : Addr) (c : Cr) (bel : List Pt) (lo hi : Int × Int) (o7 o8 o9 o10 o11 o12 o13 o14 : Option D) : DSt :=
  [some (.nd .scr (ns.map .int)), some (.ref a), some (crD c), some (eT e3 bel), some (eT e3 c.cs), some (e2 lo), some (e2 hi), o7, o8, o9, o10, o11, o12, o13, o14, none, none, none, none, none, none, none, none, none, none, none, none, none]
theorem DrC.cne {c : Cr} (h : DrC c) : c.cams ≠ [] := fun e => by
  have := h.cn
  rw [e] at this
  simp at this
theorem z8e {cs : List Pt} {z : Int × Int} {G : DHp} {K : D → DHp → Prop} (hs : ∀ p ∈ cs, 1 ≤ p.2.2 ∧ p.2.2 ≤ 9) (k : K (.str (txt [sgC (szAt cs z)])) G) :
    dNe (.nd .lst ((szs cs z).map .int)) (.nd .lst []) G fun d G1 => match d with
      | .bl b => if b = true then z7r [.nd .lst ((szs cs z).map .int)] G1 fun d G1 => z1p [d] G1 fun d G1 => K d G1 else K (.str ".") G1
      | _ => False := by
  have cl : zbn (.nd .lst ((szs cs z).map .int)) = true := zhi (fun _ => rfl) _
  have dp : (py (.nd .lst ((szs cs z).map .int))).depth ≤ 64 := Nat.le_trans (zo5 (B := 0) (f := .int) (fun a => by rw [zev]; exact Nat.le_refl _) (szs cs z)) (by decide)
  refine zyv (d := .nd .lst ((szs cs z).map .int)) (e := .nd .lst []) cl rfl dp (show (1 : Nat) ≤ 64 by decide) (decide (szs cs z ≠ [])) ?_ ?_
  · rw [decide_eq_true_eq]
    show szs cs z ≠ [] ↔ (D.nd .lst ((szs cs z).map .int)) ≠ .nd .lst []
    refine not_congr ⟨fun e => by rw [e]; rfl, fun e => ?_⟩
    have := (D.nd.inj e).2
    exact List.map_eq_nil_iff.mp this
  · by_cases h : szs cs z = []
    · rw [decide_eq_false (by simpa using h)]
      rw [zs7 h] at k
      dsimp only
      rw [if_neg (by simp), zr7]
      exact k
    · rw [decide_eq_true h]
      dsimp only
      rw [if_pos rfl]
      refine ⟨szs cs z, rfl, List.length_pos_iff.mpr h, fun m hm hmax => ?_⟩
      obtain ⟨p, hp, e⟩ := List.mem_map.mp hm
      have hb := hs p (List.mem_filter.mp hp).1
      rw [zwg (by omega) hm hmax, zr5 (by omega) (by omega)] at k
      refine ⟨m, rfl, zrx (by omega) (by omega), ?_⟩
      rw [ztf (by omega) (by omega)]
      exact k
theorem zabk : ("o" : Str) = txt [111] := by decide +kernel
theorem zabt : ("x" : Str) = txt [120] := by decide +kernel
theorem zaa6 {b : Bool} {G : DHp} {K : DVK} (k : K (.bl false) G) : if b = true then dNe (.str (txt [oxC b])) (.str "o") G K else dNe (.str (txt [oxC b])) (.str "x") G K := by
  cases b with
  | true =>
    rw [if_pos rfl, zabk]
    exact zsg (fun c hc => by rw [List.mem_singleton.mp hc]; decide) k
  | false =>
    rw [if_neg (by simp), zabt]
    exact zsg (fun c hc => by rw [List.mem_singleton.mp hc]; decide) k
theorem z7e {n : Nat} (hn : n < 10) {G : DHp} {K : DVK} (k : K (.bl false) G) : if (n : Int) = 0 then dNe (.str (txt [sgC n])) (.str ".") G K else z1p [.int (n : Nat)] G fun y G2 => dNe (.str (txt [sgC n])) y G2 K := by
  by_cases h : (n : Int) = 0
  · rw [if_pos h, h, zr7]
    exact zsg (fun c hc => by rw [List.mem_singleton.mp hc]; decide) k
  · rw [if_neg h]
    refine ⟨n, rfl, zrx (by omega) (by omega), ?_⟩
    rw [ztf (by omega) (by omega), zr5 (by omega) (by omega)]
    exact zsg (fun c hc => by rw [List.mem_singleton.mp hc]; omega) k
theorem z2w {x : Bool} {G : DHp} {Q : DVK} (h : Q (.bl false) G) : dNe (.bl x) (.bl x) G Q := by
  refine z74 ?_
  rw [show (x != x) = false by simp]
  exact h
theorem z6v (x y : Int) : ab (x - y) = ab (y - x) := by unfold ab; split <;> split <;> omega
theorem z1r (c : Cr) (x y : Int) : (c.cs.all fun p => decide (c.room + p.2.2 < mx (ab (x - p.1)) (ab (y - p.2.1)))) = clear c (x, y) := by
  unfold clear clrC
  congr 1
  funext p
  rw [z6v x, z6v y]
theorem z47 {F : zh5} {ns : List Int} {a : Addr} {c : Cr} {bel : List Pt} {lo hi : Int × Int} {G : DHp} (P : LwP c bel lo hi)
    (k : ∀ o7 o8 o9 o10 o11 o12 o13 o14, F.nx (st7 ns a c bel lo hi o7 o8 o9 o10 o11 o12 o13 o14) G) : zn2 F (st7 ns a c bel lo hi none none none none none none none none) G := by
  obtain ⟨⟨a1, a2⟩, a3, a4⟩ := P.bd.a
  obtain ⟨⟨b1, b2⟩, b3, b4⟩ := P.bd.b
  simp_arith only [zn2, st7, dFor, zcn]
  refine zfd (by decide) rfl ?_
  refine zfd (by decide) rfl ?_
  simp_arith only [true_and]
  refine ⟨⟨by omega, by omega, by omega⟩, ?_⟩
  refine ⟨fun i η G' => G' = G ∧ ∃ o7 o8 o9 o10 o11 o12 o13 o14, η = st7 ns a c bel lo hi o7 o8 o9 o10 o11 o12 o13 o14, ⟨rfl, none, none, none, none, none, none, none, none, rfl⟩, fun _ _ _ _ => trivial, ?_, ?_⟩
  · rintro i d η G' hd ⟨rfl, o7, o8, o9, o10, o11, o12, o13, o14, rfl⟩
    obtain ⟨y, hy, rfl⟩ := zcq hd
    have hy2 := mem_range.mp (List.mem_of_getElem? hy)
    simp_arith only [st7]
    refine zfd (by decide) rfl ?_
    refine zfd (by decide) rfl ?_
    simp_arith only [true_and]
    refine ⟨⟨by omega, by omega, by omega⟩, ?_⟩
    refine ⟨fun j η G2 => G2 = G' ∧ ∃ o8 o9 o10 o11 o12 o13 o14, η = st7 ns a c bel lo hi (some (.int y)) o8 o9 o10 o11 o12 o13 o14, ⟨rfl, o8, o9, o10, o11, o12, o13, o14, rfl⟩, fun _ _ _ _ => trivial, ?_, ?_⟩
    · rintro j dx η G2 hdx ⟨rfl, o8, o9, o10, o11, o12, o13, o14, rfl⟩
      obtain ⟨x, hx, rfl⟩ := zcq hdx
      have hx2 := mem_range.mp (List.mem_of_getElem? hx)
      simp_arith only [st7]
      have cb : ∀ p ∈ c.cs, 1 ≤ p.2.2 ∧ p.2.2 ≤ 9 := fun p hp => by have := (P.dr.g.bd p hp).2.2; omega
      have cl := P.dr.g.len
      have hbl := P.bl
      refine z0l (xs := c.cs) (f := e3) (fun p => decide ((p.1, p.2.1) = (x, y))) (fun p => .int p.2.2) (by omega) (fun R r => ?_) (fun p hp G1 A B hA hB => ?_) fun w1 hw1 => ?_
      · simp_arith only [zd4, eT]
        exact r
      · simp_arith only [e3]
        refine ztb (d := e2 (p.1, p.2.1)) (e := e2 (x, y)) (zle _) (zle _) (Nat.le_trans (zlr _) (by decide)) (Nat.le_trans (zlr _) (by decide)) (decide ((p.1, p.2.1) = (x, y))) ?_ ?_
        · rw [decide_eq_true_eq]
          exact ⟨fun e => by rw [e], fun e => z6m.mp e⟩
        by_cases e : (p.1, p.2.1) = (x, y)
        · rw [decide_eq_true e]
          simp_arith only [true_and]
          exact hA (decide_eq_true e)
        · rw [decide_eq_false e]
          simp_arith only [true_and]
          exact hB (decide_eq_false e)
      simp_arith only [zo, zc8 hw1, DO.tree]
      rw [show (List.filter (fun p : Pt => decide ((p.1, p.2.1) = (x, y))) c.cs).map (fun p => D.int p.2.2) = (szs c.cs (x, y)).map .int by unfold szs; rw [List.map_map]; rfl]
      refine z8e cb ?_
      refine zjt (xs := c.cs) (f := e3) (fun p => .bl (decide (c.room + p.2.2 < mx (ab (x - p.1)) (ab (y - p.2.1))))) (by omega) (fun R r => ?_) (fun p hp G1 A kk => ?_) fun w2 hw2 => ?_
      · simp_arith only [zd4, eT]
        exact r
      · simp_arith only [e3, zs9, zrq, dFld, zzu]
        exact kk
      simp_arith only [zo, zc8 hw2, DO.tree]
      refine zkd (b := fun p : Pt => decide (c.room + p.2.2 < mx (ab (x - p.1)) (ab (y - p.2.1)))) ?_
      rw [z1r]
      refine z0l (xs := bel) (f := e3) (fun st => decide (zd6 c.foot st = (x, y))) e3 (by omega) (fun R r => ?_) (fun st hst G1 A B hA hB => ?_) fun w3 hw3 => ?_
      · simp_arith only [zd4, eT]
        exact r
      · simp_arith only [zp5]
        refine ⟨z0s (by decide +kernel), ?_⟩
        refine ⟨c, st, rfl, ?_⟩
        simp_arith only [true_and]
        refine ztb (d := e2 (zd6 c.foot st)) (e := e2 (x, y)) (zle _) (zle _) (Nat.le_trans (zlr _) (by decide)) (Nat.le_trans (zlr _) (by decide)) (decide (zd6 c.foot st = (x, y))) ?_ ?_
        · rw [decide_eq_true_eq]
          exact ⟨fun e => by rw [e], fun e => z6m.mp e⟩
        by_cases e : zd6 c.foot st = (x, y)
        · rw [decide_eq_true e]
          simp_arith only [true_and]
          exact hA (decide_eq_true e)
        · rw [decide_eq_false e]
          simp_arith only [true_and]
          exact hB (decide_eq_false e)
      simp_arith only [zo, zc8 hw3, DO.tree]
      rw [show (D.lst ((bel.filter fun st => decide (zd6 c.foot st = (x, y))).map e3)) = eL e3 (bel.filter fun st => decide (zd6 c.foot st = (x, y))) from rfl, z08]
      have hfl : (bel.filter fun st => decide (zd6 c.foot st = (x, y))).length = zvp c bel (x, y) := rfl
      rw [hfl]
      have hfn : zvp c bel (x, y) < 10 := by
        have := List.length_filter_le (fun st => decide (zd6 c.foot st = (x, y))) bel
        rw [hfl] at this
        omega
      refine zfd (by decide) rfl ?_
      simp_arith only [true_and]
      refine zfd (by decide) rfl ?_
      simp_arith only [dFld, zna]
      refine znd P.dr.cne ?_
      rw [z0o]
      dsimp only
      refine ⟨c.cs, lo, hi, rfl, by omega, P.bd, ?_⟩
      refine zwp P.bd ⟨hx2.1, by omega⟩ ⟨hy2.1, by omega⟩ ?_
      refine zsg (fun d hd => by rw [List.mem_singleton.mp hd]; exact z9y _ (z4c _ _)) ?_
      simp_arith only [true_and]
      refine ⟨c, (x, y), rfl, P.dr.cne, ?_⟩
      refine z2w ?_
      simp_arith only [true_and]
      refine ⟨c, lo, hi, rfl, P.dr.cne, P.bd, ?_⟩
      refine zwp P.bd ⟨hx2.1, by omega⟩ ⟨hy2.1, by omega⟩ ?_
      refine zaa6 (b := clear c (x, y)) ?_
      simp_arith only [true_and]
      refine ⟨c, bel, lo, hi, rfl, by omega, P.bd, ?_⟩
      refine zwp P.bd ⟨hx2.1, by omega⟩ ⟨hy2.1, by omega⟩ ?_
      refine z7e (n := zvp c bel (x, y)) hfn ?_
      simp_arith only [true_and]
      exact ⟨_, (by repeat (first | exact Le.nil | apply Le.keep | apply Le.drop)), rfl, _, _, _, _, _, _, _, rfl⟩
    · rintro η G2 ⟨rfl, o8, o9, o10, o11, o12, o13, o14, rfl⟩
      exact ⟨_, (by repeat (first | exact Le.nil | apply Le.keep | apply Le.drop)), rfl, _, _, _, _, _, _, _, _, rfl⟩
  · rintro η G' ⟨rfl, o7, o8, o9, o10, o11, o12, o13, o14, rfl⟩
    exact k _ _ _ _ _ _ _ _
end M
namespace M
open PySem PySem.Spec PyProof.Rows L2 DL
variable [CA]
theorem zaa2 {t : Int} (h : 0 ≤ t ∧ t ≤ 3) : t = 0 ∨ t = 1 ∨ t = 2 ∨ t = 3 := by omega
theorem zqt {i j : Int} (h : i = j ∨ i = -j) : ab i = ab j := by
  rcases h with rfl | rfl
  · rfl
  · unfold ab; split <;> split <;> omega
theorem z0q (i j : Int) : mx i j = mx j i := by
  unfold mx
  split <;> split <;> omega
theorem z09 {c : Cr} {st p : Pt} (h : 0 ≤ st.1 ∧ st.1 ≤ 3) : clr c st p ↔ c.room + p.2.2 < mx (ab (p.1 - (zd6 c.foot st).1)) (ab (p.2.1 - (zd6 c.foot st).2)) := by
  unfold clr
  obtain ⟨t, a, b⟩ := st
  obtain ⟨x, y, s⟩ := p
  generalize c.foot = ft
  obtain ⟨f1, f2⟩ := ft
  have h : 0 ≤ t ∧ t ≤ 3 := h
  have go : mx (ab ((rot x y t).1 + a - f1)) (ab ((rot x y t).2 + b - f2)) = mx (ab (x - (zd6 (f1, f2) (t, a, b)).1)) (ab (y - (zd6 (f1, f2) (t, a, b)).2)) := by
    rcases zaa2 h with rfl | rfl | rfl | rfl
    · rw [zqt (i := (rot x y 0).1 + a - f1) (j := x - (zd6 (f1, f2) (0, a, b)).1) (by simp [rot, zd6]; omega), zqt (i := (rot x y 0).2 + b - f2) (j := y - (zd6 (f1, f2) (0, a, b)).2) (by simp [rot, zd6]; omega)]
    · rw [z0q, zqt (i := (rot x y 1).1 + a - f1) (j := y - (zd6 (f1, f2) (1, a, b)).2) (by simp [rot, zd6]; omega), zqt (i := (rot x y 1).2 + b - f2) (j := x - (zd6 (f1, f2) (1, a, b)).1) (by simp [rot, zd6]; omega)]
    · rw [zqt (i := (rot x y 2).1 + a - f1) (j := x - (zd6 (f1, f2) (2, a, b)).1) (by simp [rot, zd6]; omega), zqt (i := (rot x y 2).2 + b - f2) (j := y - (zd6 (f1, f2) (2, a, b)).2) (by simp [rot, zd6]; omega)]
    · rw [z0q, zqt (i := (rot x y 3).1 + a - f1) (j := y - (zd6 (f1, f2) (3, a, b)).2) (by simp [rot, zd6]; omega), zqt (i := (rot x y 3).2 + b - f2) (j := x - (zd6 (f1, f2) (3, a, b)).1) (by simp [rot, zd6]; omega)]
  rw [go]
theorem z1g {c : Cr} {st : Pt} (h : 0 ≤ st.1 ∧ st.1 ≤ 3) : clear c (zd6 c.foot st) = safe c st := by
  unfold clear safe
  congr 1
  funext p
  rw [decide_eq_decide]
  unfold clrC
  exact (z09 h).symm
theorem z62 {F : zh5} {ns : List Int} {a : Addr} {c : Cr} {bel : List Pt} {lo hi : Int × Int} {G : DHp} {o7 o8 o9 o10 o11 o12 o13 o14 : Option D} (P : LwP c bel lo hi)
    (k : ∀ o15, F.nx [some (.nd .scr (ns.map .int)), some (.ref a), some (crD c), some (eT e3 bel), some (eT e3 c.cs), some (e2 lo), some (e2 hi), o7, o8, o9, o10, o11, o12, o13, o14, o15, none, none, none, none, none, none, none, none, none, none, none, none] G) :
    zpx F (st7 ns a c bel lo hi o7 o8 o9 o10 o11 o12 o13 o14) G := by
  simp_arith only [zpx, st7, dFor, zd4, eT]
  refine ⟨fun i η G' => G' = G ∧ ∃ o15, η = [some (.nd .scr (ns.map .int)), some (.ref a), some (crD c), some (.nd .tup (bel.map e3)), some (.nd .tup (c.cs.map e3)), some (e2 lo), some (e2 hi), o7, o8, o9, o10, o11, o12, o13, o14, o15, none, none, none, none, none, none, none, none, none, none, none, none], ⟨rfl, none, rfl⟩, fun _ _ _ _ => trivial, ?_, ?_⟩
  · rintro i d η G' hd ⟨rfl, o15, rfl⟩
    obtain ⟨st, hst, rfl⟩ := zcq hd
    simp_arith only [zp5]
    refine ⟨z0s (by decide +kernel), ?_⟩
    refine ⟨c, st, rfl, ?_⟩
    refine ⟨c, zd6 c.foot st, rfl, P.dr.cne, ?_⟩
    refine ⟨z0s (by decide +kernel), ?_⟩
    refine ⟨c, st, rfl, P.dr.cne, ?_⟩
    rw [z1g (P.bs st (List.mem_of_getElem? hst))]
    refine z2w ?_
    simp_arith only [true_and]
    exact ⟨_, (by repeat (first | exact Le.nil | apply Le.keep | apply Le.drop)), rfl, _, rfl⟩
  · rintro η G' ⟨rfl, o15, rfl⟩
    exact k o15
def sgL : List Nat := [46, 46, 49, 57, 52]
structure RwY (w h : Int) (rws : List (List Nat)) : Prop where
  len : (rws.length : Int) = h
  row : ∀ l ∈ rws, (l.length : Int) = w ∧ ∀ c ∈ l, c ∈ sgL
theorem z7k {F : zh5} {ns : List Int} {a p : Addr} {w h c0 : Int} {G0 : DHp} {o2 o3 o4 o5 o6 o7 o8 o9 o10 o11 o12 o13 o14 o15 : Option D} (hl : ns.length ≤ 63) (hap : a ≠ p) (hw : 1 ≤ w ∧ w ≤ 5) (hh : 1 ≤ h ∧ h ≤ 4)
    (k : ∀ (rws : List (List Nat)) (c' : Int) (o14 : Option D), RwY w h rws → F.nx [some (.nd .scr (ns.map .int)), some (.ref a), o2, o3, o4, o5, o6, o7, o8, o9, o10, o11, o12, o13, o14, o15, some (.int w), some (.int h), some (.ref p), none, none, none, none, none, none, none, none, none] (Gw (up G0 p (.lst (rws.map fun l => .str (txt l)))) a ns c')) :
    zpm F [some (.nd .scr (ns.map .int)), some (.ref a), o2, o3, o4, o5, o6, o7, o8, o9, o10, o11, o12, o13, o14, o15, some (.int w), some (.int h), some (.ref p), none, none, none, none, none, none, none, none, none] (Gw (up G0 p (.lst [])) a ns c0) := by
  simp_arith only [zpm, dFor, ze8]
  refine ⟨⟨by omega, by omega⟩, ?_⟩
  refine ⟨fun i η G' => ∃ (rws : List (List Nat)) (c' : Int) (o14 : Option D), η = [some (.nd .scr (ns.map .int)), some (.ref a), o2, o3, o4, o5, o6, o7, o8, o9, o10, o11, o12, o13, o14, o15, some (.int w), some (.int h), some (.ref p), none, none, none, none, none, none, none, none, none] ∧ G' = Gw (up G0 p (.lst (rws.map fun l => .str (txt l)))) a ns c' ∧ rws.length = i ∧ ∀ l ∈ rws, (l.length : Int) = w ∧ ∀ c ∈ l, c ∈ sgL, ⟨[], c0, o14, rfl, rfl, rfl, fun l hl => (nomatch hl)⟩, fun _ _ _ _ => trivial, ?_, ?_⟩
  · rintro i d η G' hd ⟨rws, c', o14, rfl, rfl, hi, hr⟩
    obtain ⟨t, ht, rfl⟩ := zcq hd
    have hil := (List.getElem?_eq_some_iff.mp ht).1
    rw [za1] at hil
    simp_arith only [true_and]
    refine ⟨by simp only [tyD, zig hap], rfl, ?_⟩
    refine z6j (β := Nat) (xs := za5 0 w) (f := .int) (fun c => .str (txt [c])) (fun _ c => c ∈ sgL) (by rw [za1]; omega) (fun R r => ?_) (fun x hx G1 c1 A aa => ?_) fun ys hy hp c2 w1 hw1 => ?_
    · simp_arith only [ze8]
      exact ⟨⟨by omega, by omega⟩, r⟩
    · simp_arith only [true_and]
      refine ⟨a, ns, c1, G1, _, sgL.map fun c => .str (txt [c]), rfl, rfl, hl, .inl ?_, by decide, fun d hd => ?_⟩
      · rw [zr7, show ("1" : Str) = txt [49] by decide +kernel, show ("9" : Str) = txt [57] by decide +kernel, show ("4" : Str) = txt [52] by decide +kernel]
        rfl
      · obtain ⟨c, hc, rfl⟩ := List.mem_map.mp hd
        exact aa c _ hc
    · simp_arith only [zo, zc8 hw1, DO.tree]
      rw [za1] at hy
      have hyl : (ys.length : Int) = w := by omega
      have ej : Txt.join "" (ys.map fun c => txt [c]) = txt ys := zuy ys
      have ez : ((ys.map fun c => txt [c]).map (·.length)).sum = ys.length := by
        rw [List.map_map]
        clear ej hyl hy hp hw1
        induction ys with
        | nil => rfl
        | cons c l ih =>
          rw [List.map_cons, List.sum_cons, ih, List.length_cons]
          show (txt [c]).length + _ = _
          rw [zh9]
          simp
          omega
      refine ⟨"", ys.map fun c => txt [c], rfl, by show D.nd .lst _ = _; rw [List.map_map]; rfl, ?_, ?_⟩
      · rw [ez]
        show _ + _ * 0 ≤ _
        omega
      rw [ej]
      refine (zll (p := p) (y := .str (txt ys)) (zig hap) (zb0 (by rw [List.length_map]; omega)) ?_).2
      rw [zx0 hap]
      refine ⟨_, (by repeat (first | exact Le.nil | apply Le.keep | apply Le.drop)), rws ++ [ys], _, _, rfl, by rw [List.map_append]; rfl, by rw [List.length_append, List.length_singleton, hi], fun l hl => ?_⟩
      rcases List.mem_append.mp hl with hl | hl
      · exact hr l hl
      · rw [List.mem_singleton] at hl
        subst hl
        exact ⟨hyl, fun c hc => by obtain ⟨_, _, h⟩ := hp c hc; exact h⟩
  · rintro η G' ⟨rws, c', o14, rfl, rfl, hi, hr⟩
    rw [List.length_map, za1] at hi
    exact k rws c' o14 ⟨by omega, hr⟩
end M
namespace M
open PySem PySem.Spec PyProof.Rows L2 DL
variable [CA]
theorem zto (y : Nat) : ∀ (k : Nat) (l : List Nat), zfb y k l = ((l.zipIdx k).filter fun q => decide (q.1 ≠ 46)).map fun q => ((q.2 : Int), (y : Int), (q.1 : Int) - 48)
  | _, [] => rfl
  | k, c :: l => by
    have ih := zto y (k + 1) l
    rw [List.zipIdx_cons]
    show (if c = 46 then _ else _) = _
    by_cases h : c = 46
    · rw [if_pos h, List.filter_cons_of_neg (by simpa using h), ih]
    · rw [if_neg h, List.filter_cons_of_pos (by simpa using h), ih]
      rfl
theorem zm8 {y : Nat} {p : Pt} : ∀ {k : Nat} {l : List Nat}, p ∈ zfb y k l ↔ ∃ (i c : Nat), l[i]? = some c ∧ c ≠ 46 ∧ p = (((k + i : Nat) : Int), (y : Int), (c : Int) - 48)
  | k, [] => ⟨fun h => (nomatch h), fun ⟨i, c, h, _⟩ => by simp at h⟩
  | k, c :: l => by
    have ih := zm8 (y := y) (p := p) (k := k + 1) (l := l)
    have st : p ∈ zfb y k (c :: l) ↔ (c ≠ 46 ∧ p = ((k : Int), (y : Int), (c : Int) - 48)) ∨ p ∈ zfb y (k + 1) l := by
      show p ∈ (if c = 46 then _ else _) ↔ _
      by_cases h : c = 46
      · rw [if_pos h]
        exact ⟨.inr, fun z => z.elim (fun ⟨a, _⟩ => absurd h a) id⟩
      · rw [if_neg h, List.mem_cons]
        exact ⟨fun z => z.elim (fun e => .inl ⟨h, e⟩) .inr, fun z => z.elim (fun e => .inl e.2) .inr⟩
    rw [st, ih]
    constructor
    · rintro (⟨h, e⟩ | ⟨i, d, h1, h2, e⟩)
      · exact ⟨0, c, rfl, h, e⟩
      · refine ⟨i + 1, d, h1, h2, ?_⟩
        rw [e, show k + 1 + i = k + (i + 1) by omega]
    · rintro ⟨i, d, h1, h2, e⟩
      cases i with
      | zero =>
        have : c = d := Option.some.inj h1
        subst this
        exact .inl ⟨h2, e⟩
      | succ i =>
        refine .inr ⟨i, d, h1, h2, ?_⟩
        rw [e, show k + 1 + i = k + (i + 1) by omega]
theorem zpu {p : Pt} : ∀ {k : Nat} {L : List (List Nat)}, p ∈ za8 k L ↔ ∃ i l, L[i]? = some l ∧ p ∈ zfb (k + i) 0 l
  | k, [] => ⟨fun h => (nomatch h), fun ⟨i, l, h, _⟩ => by simp at h⟩
  | k, l :: L => by
    have ih := zpu (p := p) (k := k + 1) (L := L)
    show p ∈ zfb k 0 l ++ za8 (k + 1) L ↔ _
    rw [List.mem_append, ih]
    constructor
    · rintro (h | ⟨i, m, h1, h2⟩)
      · exact ⟨0, l, rfl, h⟩
      · exact ⟨i + 1, m, h1, by rw [show k + (i + 1) = k + 1 + i by omega]; exact h2⟩
    · rintro ⟨i, m, h1, h2⟩
      cases i with
      | zero =>
        have : l = m := Option.some.inj h1
        subst this
        exact .inl h2
      | succ i => exact .inr ⟨i, m, h1, by rw [show k + 1 + i = k + (i + 1) by omega]; exact h2⟩
theorem z1n (y : Nat) (k : Nat) (l : List Nat) : (zfb y k l).length ≤ l.length := by
  rw [zto, List.length_map]
  refine Nat.le_trans (List.length_filter_le _ _) ?_
  rw [List.length_zipIdx]
  exact Nat.le_refl _
theorem zu5 {n : Nat} : ∀ (k : Nat) (L : List (List Nat)), (∀ l ∈ L, l.length ≤ n) → (za8 k L).length ≤ L.length * n
  | _, [], _ => Nat.zero_le _
  | k, l :: L, h => by
    have ih := zu5 (k + 1) L fun m hm => h m (List.mem_cons_of_mem _ hm)
    have h1 := z1n k 0 l
    have h2 := h l (List.mem_cons_self ..)
    show (zfb k 0 l ++ za8 (k + 1) L).length ≤ _
    rw [List.length_append, List.length_cons, Nat.succ_mul]
    omega
theorem zog {c : Nat} (h : c ∈ sgL) : badC c = false ∧ c < 1114112 ∧ c ≠ 10 ∧ (c ≠ 46 → c ∈ figs) ∧ (c ≠ 46 → 49 ≤ c ∧ c ≤ 57) ∧ 46 ≤ c := by
  unfold sgL at h
  simp only [List.mem_cons, List.not_mem_nil, or_false] at h
  rcases h with rfl | rfl | rfl | rfl | rfl <;> decide
theorem zsq : ∀ (k : Nat) (l : List Nat), (∀ c ∈ l, badC c = false) → zso k l = none
  | _, [], _ => rfl
  | k, c :: l, h => by
    show (if badC c then _ else _) = _
    rw [h c (List.mem_cons_self ..)]
    exact zsq (k + 1) l fun d hd => h d (List.mem_cons_of_mem _ hd)
theorem zr0 {n0 : Nat} (h0 : 1 ≤ n0 ∧ n0 ≤ 100) : ∀ (i : Nat) (L : List (List Nat)), (∀ l ∈ L, l.length = n0 ∧ ∀ c ∈ l, badC c = false) → i + L.length ≤ 100 → zj2 n0 i L = none
  | _, [], _, _ => rfl
  | i, l :: L, h, hi => by
    obtain ⟨h1, h2⟩ := h l (List.mem_cons_self ..)
    rw [List.length_cons] at hi
    have nb : badR n0 i l = false := by
      unfold badR
      rw [decide_eq_false (show ¬ l = [] from fun e => by rw [e] at h1; simp at h1; omega), decide_eq_false (show ¬ l.length > 100 by omega), decide_eq_false (show ¬ l.length ≠ n0 from fun z => z h1), decide_eq_false (show ¬ i ≥ 100 by omega)]
      rfl
    show (if badR n0 i l then some (i, 0) else match zso 0 l with | some x => some (i, x) | none => zj2 n0 (i + 1) L) = none
    rw [nb, zsq 0 l h2]
    exact zr0 h0 (i + 1) L (fun m hm => h m (List.mem_cons_of_mem _ hm)) (by omega)
theorem zym : ∀ L : List (List Nat), (TL.joinL [10] L).length ≤ (L.map (·.length)).sum + L.length
  | [] => Nat.le_refl _
  | [p] => by simp [TL.joinL]
  | p :: q :: r => by
    have ih := zym (q :: r)
    show (p ++ ([10] ++ TL.joinL [10] (q :: r))).length ≤ _
    rw [List.length_append, List.length_append, List.map_cons, List.sum_cons]
    have e1 : (p :: q :: r).length = (q :: r).length + 1 := rfl
    have e2' : ([10] : List Nat).length = 1 := rfl
    omega
theorem z3a {n : Nat} : ∀ L : List (List Nat), (∀ l ∈ L, l.length ≤ n) → (L.map (·.length)).sum ≤ L.length * n
  | [], _ => Nat.zero_le _
  | l :: L, h => by
    have ih := z3a L fun m hm => h m (List.mem_cons_of_mem _ hm)
    have := h l (List.mem_cons_self ..)
    rw [List.map_cons, List.sum_cons, List.length_cons, Nat.succ_mul]
    omega
theorem z6t : ("\n" : Str) = txt [10] := by decide +kernel
/-- the rows drawn, joined and read -/
theorem zs2 {w h : Int} {rws : List (List Nat)} (hw : 1 ≤ w ∧ w ≤ 5) (hh : 1 ≤ h ∧ h ≤ 4) (R : RwY w h rws) : RdP (Txt.join "\n" (rws.map txt)) rws := by
  have hl := R.len
  have h5 : ∀ l ∈ rws, l.length ≤ 5 := fun l hm => by have := (R.row l hm).1; omega
  have hne : rws ≠ [] := fun e => by rw [e] at hl; simp at hl; omega
  refine ⟨?_, ?_, hne, by omega, fun l hm => ⟨by have := h5 l hm; omega, fun c hc => (zog ((R.row l hm).2 c hc)).2.1⟩, ?_⟩
  · refine TL.split_join (y := "\n") (s := 10) (S := []) (by decide +kernel) (by decide +kernel) (fun e => hne (List.map_eq_nil_iff.mp e)) fun p hp => ?_
    obtain ⟨l, hm, rfl⟩ := List.mem_map.mp hp
    show 10 ∉ (txt l).cps.toList
    rw [zpo]
    exact fun hc => (zog ((R.row l hm).2 10 hc)).2.2.1 rfl
  · have e : Txt.join "\n" (rws.map txt) = txt (TL.joinL [10] rws) := by
      rw [z6t]
      exact SX.join_S [10] rws
    rw [e, zh9]
    have h1 := zym rws
    have h2 := z3a rws h5
    omega
  · have := zu5 0 rws h5
    omega
theorem z2i {w h : Int} {rws : List (List Nat)} (hw : 1 ≤ w ∧ w ≤ 5) (hh : 1 ≤ h ∧ h ≤ 4) (R : RwY w h rws) : zj2 (rws.headD []).length 0 rws = none := by
  have hl := R.len
  have e : (rws.headD []).length = w.toNat := by
    cases e : rws with
    | nil => rw [e] at hl; simp at hl; omega
    | cons l r =>
      have := (R.row l (by rw [e]; exact List.mem_cons_self ..)).1
      show l.length = _
      omega
  rw [e]
  exact zr0 (by omega) 0 rws (fun l hm => ⟨by have := (R.row l hm).1; omega, fun c hc => (zog ((R.row l hm).2 c hc)).1⟩) (by omega)
theorem zxb {w h : Int} {rws : List (List Nat)} (hw : 1 ≤ w ∧ w ≤ 5) (hh : 1 ≤ h ∧ h ≤ 4) (R : RwY w h rws) : ∀ p ∈ za8 0 rws, okPt (0 - 1000000) 1000000 p := fun p hp => by
  have hl := R.len
  obtain ⟨i, l, h1, h2⟩ := zpu.mp hp
  obtain ⟨j, c, h3, h4, e⟩ := zm8.mp h2
  have i1 := (List.getElem?_eq_some_iff.mp h1).1
  have j1 := (List.getElem?_eq_some_iff.mp h3).1
  have hm := List.mem_of_getElem? h1
  obtain ⟨r1, r2⟩ := R.row l hm
  have hc := (zog (r2 c (List.mem_of_getElem? h3))).2.2.2.2.1 h4
  subst e
  exact ⟨⟨by dsimp only; omega, by dsimp only; omega⟩, ⟨by dsimp only; omega, by dsimp only; omega⟩, by dsimp only; omega, by dsimp only; omega⟩
theorem z2m {cs : List Pt} {z : Int × Int} {m : Int} : m ∈ szs cs z ↔ (z.1, z.2, m) ∈ cs := by
  unfold szs
  rw [List.mem_map]
  constructor
  · rintro ⟨p, hp, rfl⟩
    obtain ⟨h1, h2⟩ := List.mem_filter.mp hp
    have := of_decide_eq_true h2
    rw [← this]
    exact h1
  · intro h
    exact ⟨_, List.mem_filter.mpr ⟨h, decide_eq_true rfl⟩, rfl⟩
/-- the drawing of the ground that was read -/
theorem z35 {w h : Int} {rws : List (List Nat)} (hw : 1 ≤ w ∧ w ≤ 5) (hh : 1 ≤ h ∧ h ≤ 4) (R : RwY w h rws) :
    ziq (fun x y => sgC (szAt (srtT e3 (za8 0 rws)) (x, y))) (0, 0) (w - 1, h - 1) = rws.map txt := by
  have hl := R.len
  refine List.ext_getElem? fun i => ?_
  unfold ziq
  rw [List.getElem?_map, List.getElem?_map]
  show Option.map _ (za5 0 (h - 1 + 1))[i]? = _
  cases e : rws[i]? with
  | none =>
    have : (za5 0 (h - 1 + 1))[i]? = none := by
      rw [List.getElem?_eq_none_iff, za1]
      have := List.getElem?_eq_none_iff.mp e
      omega
    rw [this]
    rfl
  | some l =>
    have il := (List.getElem?_eq_some_iff.mp e).1
    have hy : (za5 0 (h - 1 + 1))[i]? = some (i : Int) := by
      have := z0a (lo := 0) (hi := h - 1 + 1) (x := (i : Int)) (by omega) (by omega)
      rwa [show ((i : Int) - 0).toNat = i by omega] at this
    rw [hy]
    show some (zof _ 0 (w - 1) (i : Int)) = some (txt l)
    congr 1
    unfold zof
    congr 1
    have hm := List.mem_of_getElem? e
    obtain ⟨r1, r2⟩ := R.row l hm
    refine List.ext_getElem? fun j => ?_
    rw [List.getElem?_map]
    cases e2 : l[j]? with
    | none =>
      have : (za5 0 (w - 1 + 1))[j]? = none := by
        rw [List.getElem?_eq_none_iff, za1]
        have := List.getElem?_eq_none_iff.mp e2
        omega
      rw [this]
      rfl
    | some c =>
      have jl := (List.getElem?_eq_some_iff.mp e2).1
      have hx : (za5 0 (w - 1 + 1))[j]? = some (j : Int) := by
        have := z0a (lo := 0) (hi := w - 1 + 1) (x := (j : Int)) (by omega) (by omega)
        rwa [show ((j : Int) - 0).toNat = j by omega] at this
      rw [hx]
      show some (sgC (szAt (srtT e3 (za8 0 rws)) ((j : Int), (i : Int)))) = some c
      congr 1
      have key : ∀ m, m ∈ szs (srtT e3 (za8 0 rws)) ((j : Int), (i : Int)) ↔ c ≠ 46 ∧ m = (c : Int) - 48 := fun m => by
        rw [z2m, (zg8 e3 _).mem_iff, zpu]
        constructor
        · rintro ⟨i', l', h1, h2⟩
          obtain ⟨j', c', h3, h4, he⟩ := zm8.mp h2
          have a1 := (Prod.mk.inj he).1
          have a2 := (Prod.mk.inj (Prod.mk.inj he).2).1
          have a3 := (Prod.mk.inj (Prod.mk.inj he).2).2
          dsimp only at a1 a2
          have : i' = i := by omega
          subst this
          rw [e] at h1
          cases h1
          have : j' = j := by omega
          subst this
          rw [e2] at h3
          cases h3
          exact ⟨h4, a3⟩
        · rintro ⟨h4, rfl⟩
          refine ⟨i, l, e, zm8.mpr ⟨j, c, e2, h4, ?_⟩⟩
          rw [Nat.zero_add, Nat.zero_add]
      by_cases h4 : c = 46
      · have : szs (srtT e3 (za8 0 rws)) ((j : Int), (i : Int)) = [] := List.eq_nil_iff_forall_not_mem.mpr fun m hm => ((key m).mp hm).1 h4
        rw [zs7 this, h4]
        rfl
      · have hc := (zog (r2 c (List.mem_of_getElem? e2))).2.2.2.2.1 h4
        rw [zwg (m := (c : Int) - 48) (by omega) ((key _).mpr ⟨h4, rfl⟩) (fun y hy => by rw [((key y).mp hy).2]; exact Int.le_refl _), zr5 (by omega) (by omega)]
        omega
end M
namespace M
open PySem PySem.Spec PyProof.Rows L2 DL
variable [CA]
theorem z5t (l : List Nat) : zli (sgnL (txt l)) = l.zipIdx.map fun q => .nd .tup [.int (q.2 : Nat), .str ⟨#[q.1]⟩] := by
  unfold zli sgnL
  rw [zpo]
  refine List.ext_getElem? fun i => ?_
  rw [List.getElem?_mapIdx, List.getElem?_map, List.getElem?_map, List.getElem?_zipIdx]
  cases l[i]? with
  | none => rfl
  | some c =>
    show some _ = some _
    rw [Nat.zero_add]
theorem zaae {F : zh5} {w h : Int} {rws : List (List Nat)} {G : DHp} {o0 o1 o2 o3 o4 o5 o6 o7 o8 o9 o10 o11 o12 o13 o14 o15 o16 o17 : Option D} (hw : 1 ≤ w ∧ w ≤ 5) (hh : 1 ≤ h ∧ h ≤ 4) (R : RwY w h rws)
    (k : ∀ o7 o14, F.nx [o0, o1, o2, o3, o4, o5, o6, o7, o8, o9, o10, o11, o12, o13, o14, o15, o16, o17, some (.nd .lst (rws.map fun l => .str (txt l))), some (eL e3 (za8 0 rws)), none, none, none, none, none, none, none, none] G) :
    zsj F [o0, o1, o2, o3, o4, o5, o6, o7, o8, o9, o10, o11, o12, o13, o14, o15, o16, o17, some (.nd .lst (rws.map fun l => .str (txt l))), some (.nd .lst []), none, none, none, none, none, none, none, none] G := by
  have hl := R.len
  simp_arith only [zsj, dFor, ztk]
  refine ⟨fun i η G' => G' = G ∧ ∃ (Fd : List Pt) (o7 o14 : Option D), η = [o0, o1, o2, o3, o4, o5, o6, o7, o8, o9, o10, o11, o12, o13, o14, o15, o16, o17, some (.nd .lst (rws.map fun l => .str (txt l))), some (eL e3 Fd), none, none, none, none, none, none, none, none] ∧ Fd ++ za8 i (rws.drop i) = za8 0 rws, ⟨rfl, [], o7, o14, rfl, by rw [List.nil_append]; rfl⟩, fun _ _ _ _ => trivial, ?_, ?_⟩
  · rintro i d η G' hd ⟨rfl, Fd, o7, o14, rfl, hF⟩
    obtain ⟨dx, hdx, rfl⟩ := zjg hd
    obtain ⟨l, hli, rfl⟩ := zcq hdx
    have hil := (List.getElem?_eq_some_iff.mp hli).1
    have hm := List.mem_of_getElem? hli
    obtain ⟨r1, r2⟩ := R.row l hm
    have hdr : rws.drop i = l :: rws.drop (i + 1) := by
      rw [List.drop_eq_getElem_cons hil]
      congr 1
      exact (List.getElem?_eq_some_iff.mp hli).2
    rw [hdr, show za8 i (l :: rws.drop (i + 1)) = zfb i 0 l ++ za8 (i + 1) (rws.drop (i + 1)) from rfl, ← List.append_assoc] at hF
    have hPl : (za8 0 rws).length ≤ 100 := (zs2 hw hh R).pl
    have hFl : Fd.length + (zfb i 0 l).length ≤ 100 := by
      have := congrArg List.length hF
      rw [List.length_append, List.length_append] at this
      omega
    simp_arith only [true_and]
    refine z0l (xs := l.zipIdx) (f := fun q => .nd .tup [.int (q.2 : Nat), .str ⟨#[q.1]⟩]) (fun q => decide (q.1 ≠ 46)) (fun q => e3 ((q.2 : Int), (i : Int), (q.1 : Int) - 48)) (by rw [List.length_zipIdx]; omega) (fun R' r => ?_) (fun q hq G1 A B hA hB => ?_) fun w1 hw1 => ?_
    · simp_arith only [zs5]
      refine ⟨txt l, rfl, ?_⟩
      rw [z5t]
      exact r
    · obtain ⟨ch, ix⟩ := q
      have hcm : ch ∈ l := by
        have := List.mem_zipIdx hq
        obtain ⟨_, h2, h3⟩ := this
        rw [h3]
        exact List.getElem_mem _
      have hc := zog (r2 ch hcm)
      simp_arith only [true_and]
      refine z0c hc.2.1 ?_
      by_cases h46 : ch = 46
      · rw [decide_eq_false (by simpa using h46)]
        simp_arith only [true_and]
        exact hB (decide_eq_false (by simpa using h46))
      · rw [decide_eq_true h46]
        simp_arith only [true_and]
        refine ⟨⟨#[ch]⟩, (ch : Int) - 48, rfl, z2k (hc.2.2.2.1 h46), (show 1 ≤ 640 by decide), ?_⟩
        exact hA (decide_eq_true h46)
    · simp_arith only [zo, zc8 hw1, DO.tree]
      have ee : (List.filter (fun q : Nat × Nat => decide (q.1 ≠ 46)) l.zipIdx).map (fun q => e3 ((q.2 : Int), (i : Int), (q.1 : Int) - 48)) = (zfb i 0 l).map e3 := by
        rw [zto, List.map_map]
        rfl
      rw [ee]
      refine zz1 (xs := Fd.map e3) (ys := (zfb i 0 l).map e3) rfl rfl (z7m (by rw [List.length_map, List.length_map]; omega)) ?_
      rw [← List.map_append]
      exact ⟨_, (by repeat (first | exact Le.nil | apply Le.keep | apply Le.drop)), rfl, Fd ++ zfb i 0 l, _, _, rfl, hF⟩
  · rintro η G' ⟨rfl, Fd, o7, o14, rfl, hF⟩
    rw [zk0, List.length_map, List.drop_length] at hF
    have hF : Fd = za8 0 rws := by simpa [za8] using hF
    subst hF
    exact k _ _
theorem zaby {F : zh5} {w h : Int} {rws : List (List Nat)} {G : DHp} {o0 o1 o2 o3 o4 o5 o6 o7 o8 o9 o10 o11 o12 o13 o14 o15 o21 o22 o23 o24 o25 o26 o27 : Option D} (hw : 1 ≤ w ∧ w ≤ 5) (hh : 1 ≤ h ∧ h ≤ 4) (R : RwY w h rws)
    (k : F.nx [o0, o1, o2, o3, o4, o5, o6, o7, o8, o9, o10, o11, o12, o13, o14, o15, some (.int w), some (.int h), some (.nd .lst (rws.map fun l => .str (txt l))), some (eL e3 (za8 0 rws)), some (gD (srtT e3 (za8 0 rws))), o21, o22, o23, o24, o25, o26, o27] G) :
    zw7 F [o0, o1, o2, o3, o4, o5, o6, o7, o8, o9, o10, o11, o12, o13, o14, o15, some (.int w), some (.int h), some (.nd .lst (rws.map fun l => .str (txt l))), some (eL e3 (za8 0 rws)), some (gD (srtT e3 (za8 0 rws))), o21, o22, o23, o24, o25, o26, o27] G := by
  have hl := R.len
  have P := zs2 hw hh R
  have hpl := P.pl
  simp_arith only [zw7, zg0]
  intro x3 hx3
  refine ⟨x3, za8 0 rws, rfl, rfl, zo, P.pl, zxb hw hh R, ?_⟩
  rw [zfe]
  refine ⟨rfl, ?_⟩
  simp_arith only [zo, zc8 hx3, DO.tree]
  refine ⟨true, ⟨_, _, rfl, rfl, (decide_eq_true rfl).symm⟩, ?_⟩
  simp_arith only [true_and]
  refine ⟨srtT e3 (za8 0 rws), (0, 0), (w - 1, h - 1), rfl, by rw [(zg8 e3 _).length_eq]; omega, ⟨⟨⟨by decide, by decide⟩, by decide, by decide⟩, ⟨by dsimp only; omega, by dsimp only; omega⟩, by dsimp only; omega, by dsimp only; omega⟩, ?_⟩
  rw [z35 hw hh R]
  have er : List.map D.str (List.map txt rws) = rws.map fun l => .str (txt l) := by rw [List.map_map]; rfl
  rw [er]
  simp_arith only [z7o]
  intro p4 hp4
  simp_arith only [zo, zc8 hp4, DO.tree]
  have cl : zax (.nd .lst (rws.map fun l => .str (txt l))) = true := by
    show cleanXs _ = true
    rw [zsv, List.all_eq_true]
    intro d hd
    obtain ⟨l, hm, rfl⟩ := List.mem_map.mp hd
    exact zhu fun c hc => (zog ((R.row l hm).2 c hc)).2.1
  have dp : (py (.nd .lst (rws.map fun l => .str (txt l)))).depth ≤ 64 := Nat.le_trans (zo5 (B := 0) (f := fun l => .str (txt l)) (fun a => Nat.zero_le _) rws) (by decide)
  refine zz7 (d := .nd .lst (rws.map fun l => .str (txt l))) (e := .nd .lst (rws.map fun l => .str (txt l))) cl cl dp dp false ⟨fun z => (by cases z), fun z => absurd rfl z⟩ ?_
  simp_arith only [true_and]
  exact k
def wrL : List (List Nat × List (List Nat) × Nat × Nat) :=
  [([], [[]], 0, 0), ([46, 46, 10, 46, 46, 46], [[46, 46], [46, 46, 46]], 1, 0), ([46, 46, 10], [[46, 46], []], 1, 0), ([46, 49, 10, 46, 48], [[46, 49], [46, 48]], 1, 1), ([120], [[120]], 0, 0), ([46, 43], [[46, 43]], 0, 1), (List.replicate 101 46, [List.replicate 101 46], 0, 0)]
def okW (q : List Nat × List (List Nat) × Nat × Nat) : Bool :=
  (TL.spl [10] 0 [] q.1 == q.2.1) && decide (q.1.length ≤ 1000) && decide (q.2.1 ≠ []) && decide (q.2.1.length ≤ 1000) && (q.2.1.all fun l => decide (l.length ≤ 1000) && l.all fun c => decide (c < 1114112)) && decide ((za8 0 q.2.1).length ≤ 100) && (zj2 (q.2.1.headD []).length 0 q.2.1 == some (q.2.2.1, q.2.2.2)) && decide (q.2.2.1 ≤ 1000) && decide (q.2.2.2 ≤ 1000)
theorem zaah : wrL.all okW = true := by decide +kernel
theorem z85 {q : List Nat × List (List Nat) × Nat × Nat} (h : okW q = true) : RdP (txt q.1) q.2.1 ∧ zj2 (q.2.1.headD []).length 0 q.2.1 = some (q.2.2.1, q.2.2.2) := by
  unfold okW at h
  simp only [Bool.and_eq_true, decide_eq_true_eq, beq_iff_eq, List.all_eq_true] at h
  obtain ⟨⟨⟨⟨⟨⟨⟨⟨h1, h2⟩, h3⟩, h4⟩, h5⟩, h6⟩, h7⟩, _⟩, _⟩ := h
  refine ⟨⟨?_, by rw [zh9]; omega, h3, h4, fun l hl => ⟨by have := (h5 l hl).1; omega, (h5 l hl).2⟩, h6⟩, h7⟩
  rw [z6t]
  have := SX.split_S (a := q.1) (b := [10]) (by simp) (by decide)
  rw [h1] at this
  exact this
theorem dots : Txt.mul "." 101 = txt (List.replicate 101 46) := by decide +kernel
def wrD (q : List Nat × List (List Nat) × Nat × Nat) : D := .nd .tup [.str (txt q.1), e2 ((q.2.2.1 : Int), (q.2.2.2 : Int))]
theorem z44 {F : zh5} {G : DHp} {o0 o1 o2 o3 o4 o5 o6 o7 o8 o9 o10 o11 o12 o13 o14 o15 o16 o17 o18 o19 o20 o22 o23 o24 o25 o26 o27 : Option D}
    (k : F.nx [o0, o1, o2, o3, o4, o5, o6, o7, o8, o9, o10, o11, o12, o13, o14, o15, o16, o17, o18, o19, o20, some (.nd .lst (wrL.map wrD)), o22, o23, o24, o25, o26, o27] G) :
    zn1 F [o0, o1, o2, o3, o4, o5, o6, o7, o8, o9, o10, o11, o12, o13, o14, o15, o16, o17, o18, o19, o20, none, o22, o23, o24, o25, o26, o27] G := by
  simp_arith only [zn1]
  refine ⟨".", 101, rfl, rfl, ⟨by decide +kernel, fun _ _ => by decide +kernel, fun _ _ => by decide +kernel⟩, ?_⟩
  rw [dots, zzi, show ("..\n..." : Str) = txt [46, 46, 10, 46, 46, 46] by decide +kernel, show ("..\n" : Str) = txt [46, 46, 10] by decide +kernel, show (".1\n.0" : Str) = txt [46, 49, 10, 46, 48] by decide +kernel, show ("x" : Str) = txt [120] by decide +kernel, show (".+" : Str) = txt [46, 43] by decide +kernel]
  exact k
theorem z36 : ziq (fun x y => sgC (szAt (srtT e3 [(0, 0, 12), (0, 0, 3)]) (x, y))) (0, 0) (1, 0) = [txt [43, 46]] := by
  have key : ∀ (z : Int × Int) (m : Int), m ∈ szs (srtT e3 [(0, 0, 12), (0, 0, 3)]) z ↔ z = (0, 0) ∧ (m = 12 ∨ m = 3) := fun z m => by
    rw [z2m, (zg8 e3 _).mem_iff]
    obtain ⟨a, b⟩ := z
    simp only [List.mem_cons, List.not_mem_nil, or_false, Prod.mk.injEq]
    constructor
    · rintro (⟨h1, h2, h3⟩ | ⟨h1, h2, h3⟩)
      · exact ⟨⟨h1, h2⟩, .inl h3⟩
      · exact ⟨⟨h1, h2⟩, .inr h3⟩
    · rintro ⟨⟨h1, h2⟩, h3 | h3⟩
      · exact .inl ⟨h1, h2, h3⟩
      · exact .inr ⟨h1, h2, h3⟩
  have e1 : szAt (srtT e3 [(0, 0, 12), (0, 0, 3)]) (0, 0) = 12 := zwg (by decide) ((key _ _).mpr ⟨rfl, .inl rfl⟩) fun y hy => by
    rcases ((key _ _).mp hy).2 with h | h <;> omega
  have e2' : szAt (srtT e3 [(0, 0, 12), (0, 0, 3)]) (1, 0) = 0 := zs7 (List.eq_nil_iff_forall_not_mem.mpr fun m hm => by
    have := ((key _ _).mp hm).1
    cases this)
  show [txt [sgC (szAt _ (0, 0)), sgC (szAt _ (1, 0))]] = _
  rw [e1, e2']
  rfl
theorem zaau {F : zh5} {G : DHp} {o0 o1 o2 o3 o4 o5 o6 o7 o8 o9 o10 o11 o12 o13 o14 o15 o16 o17 o18 o19 o20 o22 o23 o24 o25 o26 o27 : Option D}
    (k : F.rt (.bl true) G) :
    zrw F [o0, o1, o2, o3, o4, o5, o6, o7, o8, o9, o10, o11, o12, o13, o14, o15, o16, o17, o18, o19, o20, some (.nd .lst (wrL.map wrD)), o22, o23, o24, o25, o26, o27] G := by
  simp_arith only [zrw]
  refine zjt (xs := wrL) (f := wrD) (fun _ => .bl true) (by decide) (fun R r => ?_) (fun q hq G1 A kk => ?_) fun w1 hw1 => ?_
  · simp_arith only [zd4]
    exact r
  · obtain ⟨P, he⟩ := z85 (List.all_eq_true.mp zaah q hq)
    simp_arith only [wrD, dFgE]
    refine ⟨txt q.1, q.2.1, q.2.2.1, q.2.2.2, rfl, P, he, fun p xs hp => ⟨[p], ?_⟩⟩
    rw [show List.foldl dl (up G1 p (.lst xs)) [p] = G1 from zc8 hp]
    refine ztb (d := e2 ((q.2.2.1 : Int), (q.2.2.2 : Int))) (e := e2 ((q.2.2.1 : Int), (q.2.2.2 : Int))) (zle _) (zle _) (Nat.le_trans (zlr _) (by decide)) (Nat.le_trans (zlr _) (by decide)) true ⟨fun _ => rfl, fun _ => rfl⟩ ?_
    exact kk
  · simp_arith only [zo, zc8 hw1, DO.tree]
    refine zkd (b := fun _ => true) ?_
    rw [show (wrL.all fun _ => true) = true from rfl]
    simp_arith only [zg0]
    intro x3 hx3
    refine ⟨x3, [(0, 0, 12), (0, 0, 3)], rfl, rfl, zo, by decide, fun p hp => ?_, ?_⟩
    · simp only [List.mem_cons, List.not_mem_nil, or_false] at hp
      rcases hp with rfl | rfl
      · exact ⟨⟨by decide, by decide⟩, ⟨by decide, by decide⟩, by decide, by decide⟩
      · exact ⟨⟨by decide, by decide⟩, ⟨by decide, by decide⟩, by decide, by decide⟩
    rw [zfe]
    refine ⟨rfl, ?_⟩
    simp_arith only [zo, zc8 hx3, DO.tree]
    refine ⟨srtT e3 [(0, 0, 12), (0, 0, 3)], (0, 0), (1, 0), rfl, by rw [(zg8 e3 _).length_eq]; decide, ⟨⟨⟨by decide, by decide⟩, by decide, by decide⟩, ⟨by decide, by decide⟩, by decide, by decide⟩, ?_⟩
    rw [z36]
    refine z34 (d := .nd .lst ([txt [43, 46]].map D.str)) (e := .nd .lst [.str "+."]) ?_ ?_ (Nat.le_trans (zo5 (B := 0) (f := fun l => D.str l) (fun a => Nat.zero_le _) [txt [43, 46]]) (by decide)) (Nat.le_trans (zo5 (B := 0) (f := fun l => D.str l) (fun a => Nat.zero_le _) ["+."]) (by decide)) true ⟨fun _ => ?_, fun _ => rfl⟩ k
    · show zax (.nd .lst ([txt [43, 46]].map D.str)) = true
      decide +kernel
    · show zax (.nd .lst [.str "+."]) = true
      decide +kernel
    · show D.nd .lst [.str (txt [43, 46])] = .nd .lst [.str "+."]
      rw [show ("+." : Str) = txt [43, 46] by decide +kernel]
end M
namespace M
open PySem PySem.Spec PyProof.Rows L2 DL
variable [CA]
def sp_law : DRn := z3c
theorem z8c : ∀ ds G Q, sp_law ds G Q → ds.length = 1 := fun ds G Q h => by
  match ds, h with
  | [_], _ => rfl
theorem z8v : ∀ ds G Q, sp_law ds G Q → z7a { nx := fun _ G' => Q .non G', rt := Q } (zav ztt ds) G := fun ds G Q h => by
  match ds, h with
  | [_], ⟨ns, rfl, hl, hG, q⟩ =>
    simp_arith only [z7a, ztt]
    intro a ha
    rw [show up G a (.lst [.nd .scr (ns.map .int), .int 0]) = Gw G a ns 0 from rfl]
    refine ⟨a, ns, 0, G, rfl, rfl, hl, fun c c1 dr => ?_⟩
    simp_arith only [true_and]
    refine ⟨a, ns, c1, G, c, rfl, rfl, hl, dr.bl, fun bel c2 hne h5 hsub => ?_⟩
    simp_arith only [dFld, zna]
    refine znd dr.cne ?_
    rw [z0o]
    dsimp only
    rw [zi0]
    dsimp only
    refine zbm (by decide) hl fun t t0 t1 => ?_
    simp_arith only [true_and]
    have P : LwP c bel (-3, -2) (2 + t, 3) := ⟨dr, h5, fun st hs => ((zyp dr.tu3).mp (hsub.subset hs)).1, ⟨⟨⟨by decide, by decide⟩, by decide, by decide⟩, ⟨by dsimp only; omega, by dsimp only; omega⟩, by dsimp only; omega, by dsimp only; omega⟩⟩
    refine z47 (ns := ns) (a := a) (c := c) (bel := bel) (lo := (-3, -2)) (hi := (2 + t, 3)) P fun o7 o8 o9 o10 o11 o12 o13 o14 => ?_
    dsimp only [dSeq]
    refine z62 (ns := ns) (a := a) (c := c) (bel := bel) (lo := (-3, -2)) (hi := (2 + t, 3)) (o7 := o7) (o8 := o8) (o9 := o9) (o10 := o10) (o11 := o11) (o12 := o12) (o13 := o13) (o14 := o14) P fun o15 => ?_
    simp_arith only [true_and]
    refine zbm (by decide) hl fun w w0 w1 => ?_
    simp_arith only [true_and]
    refine zbm (by decide) hl fun h h0 h1 => ?_
    simp_arith only [true_and]
    intro p hp
    obtain ⟨e1, hap⟩ := zos (o := .lst []) hp
    have hgp := zlc hap hp
    rw [e1]
    have hw : 1 ≤ 1 + w ∧ 1 + w ≤ 5 := by omega
    have hh : 1 ≤ 1 + h ∧ 1 + h ≤ 4 := by omega
    refine z7k (ns := ns) (a := a) (p := p) (w := 1 + w) (h := 1 + h) (G0 := G) hl hap hw hh fun rws c' o14' R => ?_
    simp_arith only [zig hap, z16 hap hgp, DO.tree]
    refine zaae (w := 1 + w) (h := 1 + h) (rws := rws) hw hh R fun o7' o14'' => ?_
    simp_arith only [true_and]
    have P2 := zs2 hw hh R
    have er : rws.map (fun l => D.str (txt l)) = (rws.map txt).map D.str := by rw [List.map_map]; rfl
    have jf : ((rws.map txt).map (·.length)).sum + (rws.map txt).length * ("\n" : Str).length ≤ 16777216 := by
      have e1' : ((rws.map txt).map (·.length)) = rws.map (·.length) := by
        rw [List.map_map]
        exact List.map_congr_left fun l _ => zh9 l
      rw [e1', List.length_map, show ("\n" : Str).length = 1 by decide +kernel]
      have h5' := z3a (n := 5) rws fun l hm => by have := (R.row l hm).1; omega
      have hl' := R.len
      omega
    simp_arith only [dCX]
    refine ⟨rfl, "\n", rws.map txt, rfl, by rw [← er]; rfl, jf, ?_⟩
    refine ⟨Txt.join "\n" (rws.map txt), rws, rfl, P2, fun l w' e => (by rw [z2i hw hh R] at e; cases e), fun _ => ⟨zxb hw hh R, ?_⟩⟩
    refine zaby (w := 1 + w) (h := 1 + h) (rws := rws) hw hh R ?_
    simp_arith only [true_and]
    refine z44 ?_
    exact zaau (q _)
end M
end
namespace M
open PySem PySem.Spec PyProof.Rows L2 DL
variable [CA]
theorem zzp : FnScope zft ["thing", "low", "high"] (defScope zdd) := ⟨rfl, rfl, rfl, by decide +kernel, rfl, by decide +kernel, by decide +kernel⟩
theorem zzk : FnScope zix ["thing", "low", "high"] (defScope zde) := ⟨rfl, rfl, rfl, by decide +kernel, rfl, by decide +kernel, by decide +kernel⟩
theorem zg6 : FnScope zfo ["self", "craters"] (defScope zai) := ⟨rfl, rfl, rfl, by decide +kernel, rfl, by decide +kernel, by decide +kernel⟩
theorem zdo : FnScope zd7 ["self", "width", "height", "error", "false", "lost"] (defScope zah) := ⟨rfl, rfl, rfl, by decide +kernel, rfl, by decide +kernel, by decide +kernel⟩
theorem zn4 : FnScope zk5 ["thing"] (defScope zc2) := ⟨rfl, rfl, rfl, by decide +kernel, rfl, by decide +kernel, by decide +kernel⟩
theorem zx1 : FnScope zfl ["kind", "aim"] (defScope zct) := ⟨rfl, rfl, rfl, by decide +kernel, rfl, by decide +kernel, by decide +kernel⟩
theorem zic : FnScope zg7 ["self", "kind", "fuel", "aim", "slips"] (defScope zat) := ⟨rfl, rfl, rfl, by decide +kernel, rfl, by decide +kernel, by decide +kernel⟩
theorem z78 : FnScope z0u ["fuel", "aim"] (defScope zmm) := ⟨rfl, rfl, rfl, by decide +kernel, rfl, by decide +kernel, by decide +kernel⟩
theorem zcj : FnScope zez ["self", "ground", "camera", "turns", "area"] (defScope zao) := ⟨rfl, rfl, rfl, by decide +kernel, rfl, by decide +kernel, by decide +kernel⟩
theorem zqz : FnScope zgo ["self", "other"] (defScope zay) := ⟨rfl, rfl, rfl, by decide +kernel, rfl, by decide +kernel, by decide +kernel⟩
theorem ze9 : FnScope zd3 ["skies"] (defScope zac) := ⟨rfl, rfl, rfl, by decide +kernel, rfl, by decide +kernel, by decide +kernel⟩
theorem zb9 : FnScope zdb ["self", "skies", "foot", "room", "deeds"] (defScope z9) := ⟨rfl, rfl, rfl, by decide +kernel, rfl, by decide +kernel, by decide +kernel⟩
theorem zcy : FnScope ziu ["script", "index"] (defScope zbl) := ⟨rfl, rfl, rfl, by decide +kernel, rfl, by decide +kernel, by decide +kernel⟩
theorem zx7 : FnScope zlv ["draw", "many"] (defScope zcs) := ⟨rfl, rfl, rfl, by decide +kernel, rfl, by decide +kernel, by decide +kernel⟩
theorem zkl : FnScope zim ["draw"] (defScope zbk) := ⟨rfl, rfl, rfl, by decide +kernel, rfl, by decide +kernel, by decide +kernel⟩
theorem zxn : FnScope zlw ["draw", "items"] (defScope zcr) := ⟨rfl, rfl, rfl, by decide +kernel, rfl, by decide +kernel, by decide +kernel⟩
theorem z6y : FnScope z0w ["fuel", "aim"] (defScope zmo) := ⟨rfl, rfl, rfl, by decide +kernel, rfl, by decide +kernel, by decide +kernel⟩
theorem z60 : FnScope z0d ["fuel", "aim", "slips"] (defScope zmi) := ⟨rfl, rfl, rfl, by decide +kernel, rfl, by decide +kernel, by decide +kernel⟩
theorem z8m : FnScope z0i ["fuel", "slips"] (defScope zl2) := ⟨rfl, rfl, rfl, by decide +kernel, rfl, by decide +kernel, by decide +kernel⟩
theorem z7t : FnScope z0j ["fuel"] (defScope zl6) := ⟨rfl, rfl, rfl, by decide +kernel, rfl, by decide +kernel, by decide +kernel⟩
theorem zeo : FnScope zjr ["draw", "cameras"] (defScope zbo) := ⟨rfl, rfl, rfl, by decide +kernel, rfl, by decide +kernel, by decide +kernel⟩
theorem zkm : FnScope zio ["draw", "ground"] (defScope zbj) := ⟨rfl, rfl, rfl, by decide +kernel, rfl, by decide +kernel, by decide +kernel⟩
theorem zdn : FnScope zhz ["draw"] (defScope zbt) := ⟨rfl, rfl, rfl, by decide +kernel, rfl, by decide +kernel, by decide +kernel⟩
theorem zex : FnScope zdp ["text"] (defScope zaq) := ⟨rfl, rfl, rfl, by decide +kernel, rfl, by decide +kernel, by decide +kernel⟩
theorem zer : FnScope zgm ["self"] (defScope za0) := ⟨rfl, rfl, rfl, by decide +kernel, rfl, by decide +kernel, by decide +kernel⟩
theorem zkb : FnScope zg9 ["draw", "craft"] (defScope zbb) := ⟨rfl, rfl, rfl, by decide +kernel, rfl, by decide +kernel, by decide +kernel⟩
theorem zlk : FnScope zm9 ["craft", "cell"] (defScope zdc) := ⟨rfl, rfl, rfl, by decide +kernel, rfl, by decide +kernel, by decide +kernel⟩
theorem z3i : FnScope zrj ["x", "y", "turn"] (defScope zf5) := ⟨rfl, rfl, rfl, by decide +kernel, rfl, by decide +kernel, by decide +kernel⟩
theorem zbi : FnScope zg2 ["self", "standing"] (defScope zaz) := ⟨rfl, rfl, rfl, by decide +kernel, rfl, by decide +kernel, by decide +kernel⟩
theorem z1h : FnScope zpb ["size"] (defScope zet) := ⟨rfl, rfl, rfl, by decide +kernel, rfl, by decide +kernel, by decide +kernel⟩
theorem zcf : FnScope zgs ["ground", "lows", "highs"] (defScope zbc) := ⟨rfl, rfl, rfl, by decide +kernel, rfl, by decide +kernel, by decide +kernel⟩
theorem zeq : FnScope ze7 ["self", "standing"] (defScope zad) := ⟨rfl, rfl, rfl, by decide +kernel, rfl, by decide +kernel, by decide +kernel⟩
theorem zo7 : FnScope zjs ["text"] (defScope zb2) := ⟨rfl, rfl, rfl, by decide +kernel, rfl, by decide +kernel, by decide +kernel⟩
theorem zgu : FnScope zh0 ["craft", "lows", "highs"] (defScope zbr) := ⟨rfl, rfl, rfl, by decide +kernel, rfl, by decide +kernel, by decide +kernel⟩
theorem zcz : FnScope zgw ["craft", "belief", "lows", "highs"] (defScope zba) := ⟨rfl, rfl, rfl, by decide +kernel, rfl, by decide +kernel, by decide +kernel⟩
theorem zby : FnScope ztt ["script"] (defScope zke) := ⟨rfl, rfl, rfl, by decide +kernel, rfl, by decide +kernel, by decide +kernel⟩
theorem z8i : bootBuiltins ("bool" : Str) = some (.type "bool") := by first | rfl | decide +kernel
theorem zbh : bootBuiltins ("isinstance" : Str) = some (.builtin "isinstance") := by first | rfl | decide +kernel
theorem zno : bootBuiltins ("int" : Str) = some (.type "int") := by first | rfl | decide +kernel
theorem zhb : bootBuiltins ("len" : Str) = some (.builtin "len") := by first | rfl | decide +kernel
theorem zfw : bootBuiltins ("tuple" : Str) = some (.type "tuple") := by first | rfl | decide +kernel
theorem z2p : bootBuiltins ("sorted" : Str) = some (.builtin "sorted") := by first | rfl | decide +kernel
theorem znt : bootBuiltins ("all" : Str) = some (.builtin "all") := by first | rfl | decide +kernel
theorem z9j : bootBuiltins ("any" : Str) = some (.builtin "any") := by first | rfl | decide +kernel
theorem zuu : bootBuiltins ("abs" : Str) = some (.builtin "abs") := by first | rfl | decide +kernel
theorem zyb : bootBuiltins ("max" : Str) = some (.builtin "max") := by first | rfl | decide +kernel
theorem z3d : bootBuiltins ("str" : Str) = some (.type "str") := by first | rfl | decide +kernel
theorem z79 : bootBuiltins ("list" : Str) = some (.type "list") := by first | rfl | decide +kernel
structure Txt (P : Program) (K : PySem.W.Frag) (mg : Str → Option Value) where
  z4h : Addr
  za7 : Addr
  zbe : FuncData
  zda : Fun K "is_whole" "is_whole" zdd za7 zbe
  zd9 : mg "is_whole" = some (.ref za7)
  zc6 : Binds K zbe ["thing", "low", "high"] []
  zgi : Addr
  ziz : FuncData
  zvh : Fun K "is_point" "is_point" zde zgi ziz
  z1e : mg "is_point" = some (.ref zgi)
  zy6 : Binds K ziz ["thing", "low", "high"] []
  zaj : Addr
  za2 : FuncData
  zpq : Fun K "__init__" "Ground.__init__" zai zaj za2
  ze6 : Binds K za2 ["self", "craters"] []
  zbq : Addr
  zc1 : FuncData
  zpk : Fun K "__init__" "Camera.__init__" zah zbq zc1
  zjv : Binds K zc1 ["self", "width", "height", "error", "false", "lost"] []
  zdg : Addr
  ze0 : FuncData
  znc : Fun K "is_shift" "is_shift" zc2 zdg ze0
  zp2 : mg "is_shift" = some (.ref zdg)
  zoj : Binds K ze0 ["thing"] []
  zff : Addr
  zhj : FuncData
  zr1 : Fun K "wrong_aim" "wrong_aim" zct zff zhj
  zz4 : mg "wrong_aim" = some (.ref zff)
  zye : Binds K zhj ["kind", "aim"] []
  zaa : Addr
  zam : FuncData
  zr3 : Fun K "__init__" "Deed.__init__" zat zaa zam
  zew : Binds K zam ["self", "kind", "fuel", "aim", "slips"] []
  zqg : Addr
  zux : FuncData
  z6s : Fun K "turn" "turn" zmm zqg zux
  z9r : mg "turn" = some (.ref zqg)
  z8b : Binds K zux ["fuel", "aim"] []
  zcw : Addr
  ze3 : FuncData
  zty : Fun K "__init__" "Sky.__init__" zao zcw ze3
  zsx : Binds K ze3 ["self", "ground", "camera", "turns", "area"] []
  zbg : Addr
  zcg : FuncData
  ztn : Fun K "__eq__" "Ground.__eq__" zay zbg zcg
  zl4 : Binds K zcg ["self", "other"] []
  zbu : Addr
  zc0 : FuncData
  zkt : Fun K "have_one_ground" "have_one_ground" zac zbu zc0
  zpr : mg "have_one_ground" = some (.ref zbu)
  zoy : Binds K zc0 ["skies"] []
  zb3 : Addr
  zdf : FuncData
  zq3 : Fun K "__init__" "Craft.__init__" z9 zb3 zdf
  zpy : Binds K zdf ["self", "skies", "foot", "room", "deeds"] []
  zdr : Addr
  zfu : FuncData
  zph : Fun K "_law_number" "_law_number" zbl zdr zfu
  zwy : mg "_law_number" = some (.ref zdr)
  zuc : Binds K zfu ["script", "index"] []
  zas : Addr
  za4 : FuncData
  zv : Fun K "_law_take" "_law_take" zcs zas za4
  zx : mg "_law_take" = some (.ref zas)
  zr : Binds K za4 ["draw", "many"] []
  zdq : Addr
  zfn : FuncData
  zpa : Fun K "_law_ground" "_law_ground" zbk zdq zfn
  zv0 : mg "_law_ground" = some (.ref zdq)
  ztr : Binds K zfn ["draw"] []
  zbx : Addr
  zco : FuncData
  zdv : Fun K "_law_pick" "_law_pick" zcr zbx zco
  zek : mg "_law_pick" = some (.ref zbx)
  zdl : Binds K zco ["draw", "items"] []
  zqn : Addr
  zvc : FuncData
  z6f : Fun K "look" "look" zmo zqn zvc
  z9m : mg "look" = some (.ref zqn)
  z7x : Binds K zvc ["fuel", "aim"] []
  zqv : Addr
  zvi : FuncData
  z6l : Fun K "step" "step" zmi zqv zvi
  z94 : mg "step" = some (.ref zqv)
  z7h : Binds K zvi ["fuel", "aim", "slips"] []
  zqi : Addr
  zu9 : FuncData
  z6g : Fun K "land" "land" zl2 zqi zu9
  z96 : mg "land" = some (.ref zqi)
  z7b : Binds K zu9 ["fuel", "slips"] []
  zqr : Addr
  zu1 : FuncData
  z6q : Fun K "away" "away" zl6 zqr zu1
  z98 : mg "away" = some (.ref zqr)
  z76 : Binds K zu1 ["fuel"] []
  zeg : Addr
  zgj : FuncData
  zqh : Fun K "_law_deeds" "_law_deeds" zbo zeg zgj
  zxz : mg "_law_deeds" = some (.ref zeg)
  zv1 : Binds K zgj ["draw", "cameras"] []
  zdm : Addr
  zfq : FuncData
  zor : Fun K "_law_camera" "_law_camera" zbj zdm zfq
  zwd : mg "_law_camera" = some (.ref zdm)
  ztz : Binds K zfq ["draw", "ground"] []
  zef : Addr
  zgg : FuncData
  zqs : Fun K "_law_craft" "_law_craft" zbt zef zgg
  zyw : mg "_law_craft" = some (.ref zef)
  zvs : Binds K zgg ["draw"] []
  za6 : Addr
  zdi : FuncData
  zld : Fun K "read_ground" "read_ground" zaq za6 zdi
  zot : mg "read_ground" = some (.ref za6)
  zns : Binds K zdi ["text"] []
  zci : Addr
  zd2 : FuncData
  zsu : Fun K "standings" "Sky.standings" za0 zci zd2
  zmp : Binds K zd2 ["self"] []
  zdk : Addr
  zfs : FuncData
  zo4 : Fun K "_law_belief" "_law_belief" zbb zdk zfs
  zwc : mg "_law_belief" = some (.ref zdk)
  zt9 : Binds K zfs ["draw", "craft"] []
  ze2 : Addr
  zgf : FuncData
  zne : Fun K "is_clear" "is_clear" zdc ze2 zgf
  zp0 : mg "is_clear" = some (.ref ze2)
  zny : Binds K zgf ["craft", "cell"] []
  zhv : Addr
  zj7 : FuncData
  zw3 : Fun K "turned" "turned" zf5 zhv zj7
  z0g : mg "turned" = some (.ref zhv)
  zyh : Binds K zj7 ["x", "y", "turn"] []
  zch : Addr
  zec : FuncData
  zs1 : Fun K "is_safe" "Craft.is_safe" zaz zch zec
  zrf : Binds K zec ["self", "standing"] []
  zf0 : Addr
  zh7 : FuncData
  ztm : Fun K "sign_of" "sign_of" zet zf0 zh7
  zx2 : mg "sign_of" = some (.ref zf0)
  zu8 : Binds K zh7 ["size"] []
  zdh : Addr
  zfp : FuncData
  zin : Fun K "draw_ground" "draw_ground" zbc zdh zfp
  zlo : mg "draw_ground" = some (.ref zdh)
  zkg : Binds K zfp ["ground", "lows", "highs"] []
  zau : Addr
  zbd : FuncData
  zpc : Fun K "cell_below" "Craft.cell_below" zad zau zbd
  zga : Binds K zbd ["self", "standing"] []
  zed : Addr
  zgl : FuncData
  zqq : Fun K "_law_fault" "_law_fault" zb2 zed zgl
  zxx : mg "_law_fault" = some (.ref zed)
  zvy : Binds K zgl ["text"] []
  zee : Addr
  zgh : FuncData
  zql : Fun K "draw_clear" "draw_clear" zbr zee zgh
  zxj : mg "draw_clear" = some (.ref zee)
  zws : Binds K zgh ["craft", "lows", "highs"] []
  zds : Addr
  zfr : FuncData
  zoq : Fun K "draw_belief" "draw_belief" zba zds zfr
  zwf : mg "draw_belief" = some (.ref zds)
  zuf : Binds K zfr ["craft", "belief", "lows", "highs"] []
  z1f : Addr
  z4w : FuncData
  zabj : Fun K "law" "law" zke z1f z4w
  m_law : mg "law" = some (.ref z1f)
  bi_law : Binds K z4w ["script"] []
  z80 : mg "bool" = none
  zb1 : mg "isinstance" = none
  zun : mg "int" = none
  zmq : mg "len" = none
  zhm : mg "tuple" = none
  zjh : mg "enumerate" = none
  zv7 : mg "sorted" = none
  zul : mg "all" = none
  z86 : mg "set" = none
  zabi : mg "zip" = none
  zabr : mg "any" = none
  zfg : mg "range" = none
  z1b : mg "abs" = none
  z2f : mg "max" = none
  z8p : mg "str" = none
  z83 : mg "list" = none
  isi : z6w K isT
  zzc : ∃ t, mg "MOST_SIZE" = some (.int 99 t)
  zj4 : ∃ t, mg "MOST_PLACE" = some (.int 1000000 t)
  zjz : ∃ t, mg "MOST_COUNT" = some (.int 100 t)
  zbs : NoAttr K CA.Ground "craters"
  zh4 : Cls K CA.Ground
  zi2 : ∃ t, mg "MOST_SIDE_grounds" = some (.int 1000 t)
  zs4 : NoAttr K CA.Camera "width"
  zmu : Cls K CA.Camera
  zre : NoAttr K CA.Camera "height"
  zr2 : NoAttr K CA.Camera "error"
  zst : NoAttr K CA.Camera "false"
  zue : NoAttr K CA.Camera "lost"
  z03 : ∃ t, mg "MOST" = some (.int 1000 t)
  z70 : GTup K mg "KINDS" ["step", "turn", "look", "land", "away"]
  zqu : NoAttr K CA.Deed "kind"
  zpt : Cls K CA.Deed
  zyr : NoAttr K CA.Deed "fuel"
  zsn : NoAttr K CA.Deed "aim"
  zv4 : NoAttr K CA.Deed "slips"
  zpw : mg "Deed" = some (.ref CA.Deed)
  zsh : Mk K CA.Deed zaa
  zq1 : ∃ t, mg "MOST_STANDINGS" = some (.int 40000 t)
  zen : NoAttr K CA.Sky "ground"
  zf3 : Cls K CA.Sky
  zwr : NoAttr K CA.Sky "camera"
  zj8 : NoAttr K CA.Sky "turns"
  zge : NoAttr K CA.Sky "area"
  zmr : mg "Ground" = some (.ref CA.Ground)
  zmj : Meth K CA.Ground "__eq__" zbg
  z6p : mg "Sky" = some (.ref CA.Sky)
  zzn : ∃ t, mg "MOST_ROOM" = some (.int 1000 t)
  zdw : NoAttr K CA.Craft "skies"
  zce : Cls K CA.Craft
  zgq : NoAttr K CA.Craft "foot"
  zis : NoAttr K CA.Craft "room"
  zuk : NoAttr K CA.Craft "deeds"
  zo0 : Mk K CA.Ground zaj
  zx3 : mg "Camera" = some (.ref CA.Camera)
  zxl : Mk K CA.Camera zbq
  zaar : Mk K CA.Sky zcw
  z4m : mg "Craft" = some (.ref CA.Craft)
  z5u : Mk K CA.Craft zb3
  zij : ∃ t, mg "MOST_SIDE_drawings" = some (.int 100 t)
  zvj : DX.z3q P K mg CA.BadText z4h "line" "line" "word" "word"
  zpz : mg "BadText" = some (.ref CA.BadText)
  z2z : ∃ t, mg "FIGURES" = some (.str "123456789" t)
  zl3 : Meth K CA.Sky "standings" zci
  z10 : PySem.W.exmOne K (.ref CA.BadText) (.ref CA.BadText) = some true
  zu2 : XfC K CA.BadText
  zjc : PySem.W.findIn K (.ref CA.BadText) "line" = some none
  zi4 : PySem.W.findIn K (.ref CA.BadText) "word" = some none
  zf8 : Meth K CA.Craft "cell_below" zau
  zqy : Meth K CA.Craft "is_safe" zch
  z2o : NeC K CA.Ground
section
variable {P : Program} {w : World} {K : PySem.W.Frag} {mg : Str → Option Value} {base : Heap}
theorem zz9 [Bs] (T : Txt P K mg) (cdv : Value) (A : Around) (outer : List Env) (s : Shared) (H : Hp) (E : XK) (hr : Room 0 (A.deeper (envOfC "is_whole" (defScope zdd) s.heap.objs.size T.za7 cdv))) :
    PSsD (cxOf CX0 P w K mg base zft "is_whole" (defScope zdd) T.za7 cdv A outer s H E).nox (defBody zdd) zgk :=
  (zh (zaf (zlp (zp (zl7 T.isi) T.zb1 zbh (za (zb 0) (za (zir T.zun zno) zc))) (zlp (zwt (zp (zl7 T.isi) T.zb1 zbh (za (zb 0) (za (zir T.z80 z8i) zc)))) (zp1 (z4a (z5m hr.units) (z5m hr.units) (zb 1) (zb 0) (zb 2)))))))
theorem zzo (T : Txt P K mg) : FnD P w K mg base 1 T.za7 T.zbe ["thing", "low", "high"] zy :=
  fn_d T.zda zzp zya (zz9 T) zxq
theorem zzz [Bs] (T : Txt P K mg) (zt : FnD P w K mg base 1 T.za7 T.zbe ["thing", "low", "high"] zy) (cdv : Value) (A : Around) (outer : List Env) (s : Shared) (H : Hp) (E : XK) (hr : Room 1 (A.deeper (envOfC "is_point" (defScope zde) s.heap.objs.size T.zgi cdv))) :
    PSsD (cxOf CX0 P w K mg base zix "is_point" (defScope zde) T.zgi cdv A outer s H E).nox (defBody zde) zk3 :=
  (zg (zbp (zov (zik (ze4 (zc9 (zp (zl7 T.isi) T.zb1 zbh (za (zb 0) (za (zir T.zhm zfw) zc))))) (zjk (z6 (zni hr.units) (zp zhd T.zmq zhb (za (zb 0) zc)) ze (nomark _)))))
      (zh (zaf znl))
      z7)
      (zh (zaf (zlp (zl zt (hr.mono (by decide)) T.zd9 T.zda.kp T.zc6 (za (zap (ixd hr.units) (zb 0) ze) (za (zb 1) (za (zb 2) zc)))) (zlp (zl zt (hr.mono (by decide)) T.zd9 T.zda.kp T.zc6 (za (zap (ixd hr.units) (zb 0) ze) (za (zb 1) (za (zb 2) zc)))) (zp1 (zl zt (hr.mono (by decide)) T.zd9 T.zda.kp T.zc6 (za (zap (ixd hr.units) (zb 0) ze) (za ze (za (zcu (Classical.choose_spec T.zzc)) zc))))))))))
theorem zzy (T : Txt P K mg) (zt : FnD P w K mg base 1 T.za7 T.zbe ["thing", "low", "high"] zy) : FnD P w K mg base 2 T.zgi T.ziz ["thing", "low", "high"] zf7 :=
  fn_d T.zvh zzk zx6 (zzz T zt) zys
theorem zo8 [Bs] (T : Txt P K mg) (zko : FnD P w K mg base 2 T.zgi T.ziz ["thing", "low", "high"] zf7) (cdv : Value) (A : Around) (outer : List Env) (s : Shared) (H : Hp) (E : XK) (hr : Room 2 (A.deeper (envOfC "Ground.__init__" (defScope zai) s.heap.objs.size T.zaj cdv))) :
    PSsD (cxOf CX0 P w K mg base zfo "Ground.__init__" (defScope zai) T.zaj cdv A outer s H E).nox (defBody zai) zhp :=
  (zg (zc7 PassesOwn.never rfl (zwi T.zjh (za (zb 1) zc)) (zej rfl (zs (zm (i := 2) zg6.nd rfl (Or.inl rfl)) (zs (zm (i := 3) zg6.nd rfl (Or.inl rfl)) zcv)))
      (zh (zbp (zov (zik (z6 (z8d hr.units) (zb 2) (zcu (Classical.choose_spec T.zjz)) (nomark _)) (zjk (ze4 (zc9 (zl zko (hr.mono (by decide)) T.z1e T.zvh.kp T.zy6 (za (zb 3) (za (zu zfc ze (zcu (Classical.choose_spec T.zj4))) (za (zcu (Classical.choose_spec T.zj4)) zc)))))))))
      (zh zbz)
      z7)))
      (zh (ze5 T.zh4 T.zbs (zb 0) (za9 znb T.zhm zfw (za (zb6 (zp (z25 hr.units) T.zv7 z2p (za (zb 1) zc))) zc)))))
theorem zox (T : Txt P K mg) (zko : FnD P w K mg base 2 T.zgi T.ziz ["thing", "low", "high"] zf7) : FnD P w K mg base 3 T.zaj T.za2 ["self", "craters"] z4 :=
  fn_d T.zpq zg6 zod (zo8 T zko) zoi
theorem zo6 [Bs] (T : Txt P K mg) (zt : FnD P w K mg base 1 T.za7 T.zbe ["thing", "low", "high"] zy) (cdv : Value) (A : Around) (outer : List Env) (s : Shared) (H : Hp) (E : XK) (hr : Room 1 (A.deeper (envOfC "Camera.__init__" (defScope zah) s.heap.objs.size T.zbq cdv))) :
    PSsD (cxOf CX0 P w K mg base zd7 "Camera.__init__" (defScope zah) T.zbq cdv A outer s H E).nox (defBody zah) zkp :=
  (zg (zc7 PassesOwn.never rfl (zea (zk (za (zk (za zab (za (zb 1) (za ze (za (zcu (Classical.choose_spec T.zi2)) zc))))) (za (zk (za zab (za (zb 2) (za ze (za (zcu (Classical.choose_spec T.zi2)) zc))))) (za (zk (za zab (za (zb 3) (za ze (za (zcu (Classical.choose_spec T.zjz)) zc))))) (za (zk (za zab (za (zb 4) (za ze (za (zcu (Classical.choose_spec T.zjz)) zc))))) (za (zk (za zab (za (zb 5) (za ze (za (zcu (Classical.choose_spec T.zjz)) zc))))) zc))))))) (zej rfl (zs (zm (i := 6) zdo.nd rfl (Or.inl rfl)) (zs (zm (i := 7) zdo.nd rfl (Or.inl rfl)) (zs (zm (i := 8) zdo.nd rfl (Or.inl rfl)) (zs (zm (i := 9) zdo.nd rfl (Or.inl rfl)) zcv)))))
      (zh (zbp (ze4 (zc9 (zl zt (hr.mono (by decide)) T.zd9 T.zda.kp T.zc6 (za (zb 7) (za (zb 8) (za (zb 9) zc))))))
      (zh zbz)
      z7)))
      (zg (ze5 T.zmu T.zs4 (zb 0) (zb 1))
      (zg (ze5 T.zmu T.zre (zb 0) (zb 2))
      (zg (ze5 T.zmu T.zr2 (zb 0) (zb 3))
      (zg (ze5 T.zmu T.zst (zb 0) (zb 4))
      (zh (ze5 T.zmu T.zue (zb 0) (zb 5))))))))
theorem zo3 (T : Txt P K mg) (zt : FnD P w K mg base 1 T.za7 T.zbe ["thing", "low", "high"] zy) : FnD P w K mg base 2 T.zbq T.zc1 ["self", "width", "height", "error", "false", "lost"] zaw :=
  fn_d T.zpk zdo zon (zo6 T zt) zn0
theorem zzx [Bs] (T : Txt P K mg) (zt : FnD P w K mg base 1 T.za7 T.zbe ["thing", "low", "high"] zy) (cdv : Value) (A : Around) (outer : List Env) (s : Shared) (H : Hp) (E : XK) (hr : Room 1 (A.deeper (envOfC "is_shift" (defScope zc2) s.heap.objs.size T.zdg cdv))) :
    PSsD (cxOf CX0 P w K mg base zk5 "is_shift" (defScope zc2) T.zdg cdv A outer s H E).nox (defBody zc2) zqa :=
  (zh (zaf (zlp (zp (zl7 T.isi) T.zb1 zbh (za (zb 0) (za (zir T.zhm zfw) zc))) (zlp (zkh (zk2 hr.units) (zp zhd T.zmq zhb (za (zb 0) zc)) ze (nomark _)) (zp1 (zp (znq rfl) T.zul znt (za (zb6 (zhc (own := [("one", 1)]) rfl zn4.nd (zea (zb 0)) (blkOk_by (N := zk5) (sc := defScope zc2) (by decide +kernel)) (fun _ _ _ _ _ => (zm (i := 1) zn4.nd rfl (Or.inl rfl))) (fun _ _ _ _ _ => zdj) (fun _ _ _ _ _ => (zl zt (hr.mono (by decide)) T.zd9 T.zda.kp T.zc6 (za (zb 1) (za (zkk (zcu (Classical.choose_spec T.z03))) (za (zcu (Classical.choose_spec T.z03)) zc))))))) zc)))))))
theorem zzf (T : Txt P K mg) (zt : FnD P w K mg base 1 T.za7 T.zbe ["thing", "low", "high"] zy) : FnD P w K mg base 2 T.zdg T.ze0 ["thing"] zb8 :=
  fn_d T.znc zn4 zx4 (zzx T zt) zxe
theorem zyj [Bs] (T : Txt P K mg) (zb7 : FnD P w K mg base 2 T.zdg T.ze0 ["thing"] zb8) (zt : FnD P w K mg base 1 T.za7 T.zbe ["thing", "low", "high"] zy) (cdv : Value) (A : Around) (outer : List Env) (s : Shared) (H : Hp) (E : XK) (hr : Room 2 (A.deeper (envOfC "wrong_aim" (defScope zct) s.heap.objs.size T.zff cdv))) :
    PSsD (cxOf CX0 P w K mg base zfl "wrong_aim" (defScope zct) T.zff cdv A outer s H E).nox (defBody zct) zgb :=
  (zg (zbp (z6 (zk2 hr.units) (zb 0) zab (nomark _))
      (zh (zaf (zwt (zl zb7 (hr.mono (by decide)) T.zp2 T.znc.kp T.zoj (za (zb 1) zc)))))
      z7)
      (zg (zbp (z6 (zk2 hr.units) (zb 0) zab (nomark _))
      (zh (zaf (zwt (zl zt (hr.mono (by decide)) T.zd9 T.zda.kp T.zc6 (za (zb 1) (za ze (za ze zc)))))))
      z7)
      (zg (zbp (z6 (zk2 hr.units) (zb 0) zab (nomark _))
      (zh (zaf (zwt (zl zt (hr.mono (by decide)) T.zd9 T.zda.kp T.zc6 (za (zb 1) (za ze (za (zcu (Classical.choose_spec T.z03)) zc)))))))
      z7)
      (zh (zaf (zkh z58 (zb 1) zvw (nomark _)))))))
theorem zyf (T : Txt P K mg) (zb7 : FnD P w K mg base 2 T.zdg T.ze0 ["thing"] zb8) (zt : FnD P w K mg base 1 T.za7 T.zbe ["thing", "low", "high"] zy) : FnD P w K mg base 3 T.zff T.zhj ["kind", "aim"] zfm :=
  fn_d T.zr1 zx1 zwh (zyj T zb7 zt) zvx
theorem zq9 [Bs] (T : Txt P K mg) (zb7 : FnD P w K mg base 2 T.zdg T.ze0 ["thing"] zb8) (zt : FnD P w K mg base 1 T.za7 T.zbe ["thing", "low", "high"] zy) (zi5 : FnD P w K mg base 3 T.zff T.zhj ["kind", "aim"] zfm) (cdv : Value) (A : Around) (outer : List Env) (s : Shared) (H : Hp) (E : XK) (hr : Room 3 (A.deeper (envOfC "Deed.__init__" (defScope zat) s.heap.objs.size T.zaa cdv))) :
    PSsD (cxOf CX0 P w K mg base zg7 "Deed.__init__" (defScope zat) T.zaa cdv A outer s H E).nox (defBody zat) zm6 :=
  (zg (zbp (z6 (z52 (have h := DL.Room.u65 hr; h)) (zb 1) (z2x T.z70) (by with_unfolding_all rfl))
      (zh zbz)
      z7)
      (zg (zbp (ze4 (zc9 (zl zt (hr.mono (by decide)) T.zd9 T.zda.kp T.zc6 (za (zb 2) (za ze (za (zcu (Classical.choose_spec T.z03)) zc))))))
      (zh zbz)
      z7)
      (zg (zbp (zc9 (zl zi5 (hr.mono (by decide)) T.zz4 T.zr1.kp T.zye (za (zb 1) (za (zb 3) zc))))
      (zh zbz)
      z7)
      (zg (zbp (zov (zik (ze4 (zc9 (zp (zl7 T.isi) T.zb1 zbh (za (zb 4) (za (zir T.zhm zfw) zc))))) (zik (z6 (zk2 hr.units) (zb 4) (zk zc) (nomark _)) (zjk (ze4 (zc9 (zp (znq rfl) T.zul znt (za (zb6 (zhc (own := [("one", 5)]) rfl zic.nd (zea (zb 4)) (blkOk_by (N := zg7) (sc := defScope zat) (by decide +kernel)) (fun _ _ _ _ _ => (zm (i := 5) zic.nd rfl (Or.inl rfl))) (fun _ _ _ _ _ => zdj) (fun _ _ _ _ _ => (zl zb7 (hr.mono (by decide)) T.zp2 T.znc.kp T.zoj (za (zb 5) zc))))) zc))))))))
      (zh zbz)
      z7)
      (zg (zbp (zov (zz5 (z6 (zabw (have h := DL.Room.u65 hr; h)) (zb 1) (zk (za zab (za zab (za zab zc)))) (by with_unfolding_all rfl)) (zv2 (z6 (zni hr.units) (zb 4) (zk (za (zk (za ze (za ze zc))) zc)) (nomark _)))))
      (zh zbz)
      z7)
      (zg (ze5 T.zpt T.zqu (zb 0) (zb 1))
      (zg (ze5 T.zpt T.zyr (zb 0) (zb 2))
      (zg (ze5 T.zpt T.zsn (zb 0) (zb 3))
      (zh (ze5 T.zpt T.zv4 (zb 0) (za9 znb T.zhm zfw (za (zb6 (zvf rfl (have h := DL.Room.u65 hr; h) T.zv7 T.z86 (zb 4))) zc))))))))))))
theorem zq2 (T : Txt P K mg) (zb7 : FnD P w K mg base 2 T.zdg T.ze0 ["thing"] zb8) (zt : FnD P w K mg base 1 T.za7 T.zbe ["thing", "low", "high"] zy) (zi5 : FnD P w K mg base 3 T.zff T.zhj ["kind", "aim"] zfm) : FnD P w K mg base 4 T.zaa T.zam ["self", "kind", "fuel", "aim", "slips"] zw :=
  fn_d T.zr3 zic zqc (zq9 T zb7 zt zi5) zps
theorem z75 [Bs] (T : Txt P K mg) (zq : FnD P w K mg base 4 T.zaa T.zam ["self", "kind", "fuel", "aim", "slips"] zw) (cdv : Value) (A : Around) (outer : List Env) (s : Shared) (H : Hp) (E : XK) (hr : Room 5 (A.deeper (envOfC "turn" (defScope zmm) s.heap.objs.size T.zqg cdv))) :
    PSsD (cxOf CX0 P w K mg base z0u "turn" (defScope zmm) T.zqg cdv A outer s H E).nox (defBody zmm) z3e :=
  (zh (zaf (zb6 (zfx T.zsh zq (hr.mono (by decide)) T.zpw T.zew (za zab (za (zb 0) (za (zb 1) (za (zk (za (zk (za ze (za ze zc))) zc)) zc))))))))
theorem z67 (T : Txt P K mg) (zq : FnD P w K mg base 4 T.zaa T.zam ["self", "kind", "fuel", "aim", "slips"] zw) : FnD P w K mg base 6 T.zqg T.zux ["fuel", "aim"] zoe :=
  fn_d T.z6s z78 z5a (z75 T zq) z42
theorem zss [Bs] (T : Txt P K mg) (zt : FnD P w K mg base 1 T.za7 T.zbe ["thing", "low", "high"] zy) (cdv : Value) (A : Around) (outer : List Env) (s : Shared) (H : Hp) (E : XK) (hr : Room 1 (A.deeper (envOfC "Sky.__init__" (defScope zao) s.heap.objs.size T.zcw cdv))) :
    PSsD (cxOf CX0 P w K mg base zez "Sky.__init__" (defScope zao) T.zcw cdv A outer s H E).nox (defBody zao) znn :=
  (zg (zbp (zov (zik (ze4 (zc9 (zp (zl7 T.isi) T.zb1 zbh (za (zb 3) (za (zir T.zhm zfw) zc))))) (zik (z6 (zk2 hr.units) (zb 3) (zk zc) (nomark _)) (zjk (ze4 (zc9 (zp (znq rfl) T.zul znt (za (zb6 (zhc (own := [("turn", 5)]) rfl zcj.nd (zea (zb 3)) (blkOk_by (N := zez) (sc := defScope zao) (by decide +kernel)) (fun _ _ _ _ _ => (zm (i := 5) zcj.nd rfl (Or.inl rfl))) (fun _ _ _ _ _ => zdj) (fun _ _ _ _ _ => (zl zt (hr.mono (by decide)) T.zd9 T.zda.kp T.zc6 (za (zb 5) (za ze (za ze zc))))))) zc))))))))
      (zh zbz)
      z7)
      (zg (zbp (ze4 (zc9 (zp (znq rfl) T.zul znt (za (zb6 (zhc (own := [("one", 6), ("other", 7)]) rfl zcj.nd (z7q T.zabi (za (zb 3) (za (zxm sld (zb 3) (z00 ze) z0e) zc))) (blkOk_by (N := zez) (sc := defScope zao) (by decide +kernel)) (fun _ _ _ _ _ => (zej rfl (zs (zm (i := 6) zcj.nd rfl (Or.inl rfl)) (zs (zm (i := 7) zcj.nd rfl (Or.inl rfl)) zcv)))) (fun _ _ _ _ _ => zdj) (fun _ _ _ _ _ => (zkh (z54 hr.units) (zb 6) (zb 7) (nomark _))))) zc))))
      (zh zbz)
      z7)
      (zg (zbp (zov (zik (ze4 (zc9 (zp (zl7 T.isi) T.zb1 zbh (za (zb 4) (za (zir T.zhm zfw) zc))))) (zjk (z6 (zni hr.units) (zp zhd T.zmq zhb (za (zb 4) zc)) ze (nomark _)))))
      (zh zbz)
      z7)
      (zg (zbp (ze4 (zc9 (zp (znq rfl) T.zul znt (za (zb6 (zhc (own := [("number", 8)]) rfl zcj.nd (zea (zb 4)) (blkOk_by (N := zez) (sc := defScope zao) (by decide +kernel)) (fun _ _ _ _ _ => (zm (i := 8) zcj.nd rfl (Or.inl rfl))) (fun _ _ _ _ _ => zdj) (fun _ _ _ _ _ => (zl zt (hr.mono (by decide)) T.zd9 T.zda.kp T.zc6 (za (zb 8) (za (zu zfc ze (zcu (Classical.choose_spec T.zj4))) (za (zcu (Classical.choose_spec T.zj4)) zc))))))) zc))))
      (zh zbz)
      z7)
      (zg (zbp (zov (zik (z6 (zum hr.units) (zap (ixd hr.units) (zb 4) ze) (zap (ixd hr.units) (zb 4) ze) (nomark _)) (zjk (z6 (zum hr.units) (zap (ixd hr.units) (zb 4) ze) (zap (ixd hr.units) (zb 4) ze) (nomark _)))))
      (zh zbz)
      z7)
      (zg (zbp (z6 (zum hr.units) (zu zqo (zu zqo (zp zhd T.zmq zhb (za (zb 3) zc)) (zu zcb (zu zfc (zap (ixd hr.units) (zb 4) ze) (zap (ixd hr.units) (zb 4) ze)) ze)) (zu zcb (zu zfc (zap (ixd hr.units) (zb 4) ze) (zap (ixd hr.units) (zb 4) ze)) ze)) (zcu (Classical.choose_spec T.zq1)) (nomark _))
      (zh zbz)
      z7)
      (zg (ze5 T.zf3 T.zen (zb 0) (zb 1))
      (zg (ze5 T.zf3 T.zwr (zb 0) (zb 2))
      (zg (ze5 T.zf3 T.zj8 (zb 0) (zb 3))
      (zh (ze5 T.zf3 T.zge (zb 0) (zb 4))))))))))))
theorem zs6 (T : Txt P K mg) (zt : FnD P w K mg base 1 T.za7 T.zbe ["thing", "low", "high"] zy) : FnD P w K mg base 2 T.zcw T.ze3 ["self", "ground", "camera", "turns", "area"] zc4 :=
  fn_d T.zty zcj zq7 (zss T zt) zqw
theorem zq4 [Bs] (T : Txt P K mg) (cdv : Value) (A : Around) (outer : List Env) (s : Shared) (H : Hp) (E : XK) (hr : Room 0 (A.deeper (envOfC "Ground.__eq__" (defScope zay) s.heap.objs.size T.zbg cdv))) :
    PSsD (cxOf CX0 P w K mg base zgo "Ground.__eq__" (defScope zay) T.zbg cdv A outer s H E).nox (defBody zay) zjl :=
  (zh (zaf (zlp (zp (zl7 T.isi) T.zb1 zbh (za (zb 1) (za (zv6 T.zmr) zc))) (zp1 (zkh (zk2 hr.units) (za3 T.zh4 T.zbs (zb 0)) (za3 T.zh4 T.zbs (zb 1)) (nomark _))))))
theorem zrd (T : Txt P K mg) : FnD P w K mg base 1 T.zbg T.zcg ["self", "other"] zar :=
  fn_d T.ztn zqz zp4 (zq4 T) zpl
theorem zo2 [Bs] (T : Txt P K mg) (zbf : FnD P w K mg base 1 T.zbg T.zcg ["self", "other"] zar) (cdv : Value) (A : Around) (outer : List Env) (s : Shared) (H : Hp) (E : XK) (hr : Room 4 (A.deeper (envOfC "have_one_ground" (defScope zac) s.heap.objs.size T.zbu cdv))) :
    PSsD (cxOf CX0 P w K mg base zd3 "have_one_ground" (defScope zac) T.zbu cdv A outer s H E).nox (defBody zac) zhf :=
  (zg (zb5 (i := 1) ze9.nd rfl (Or.inr rfl) (zap (ixd hr.units) (zb 0) ze))
      (zh (zaf (zp (znq rfl) T.zul znt (za (zb6 (zhc (own := [("one", 2)]) rfl ze9.nd (zea (zb 0)) (blkOk_by (N := zd3) (sc := defScope zac) (by decide +kernel)) (fun _ _ _ _ _ => (zm (i := 2) ze9.nd rfl (Or.inl rfl))) (fun _ _ _ _ _ => zdj) (fun _ _ _ _ _ => (zkh (z66 (P := znf) (n := 2) (hr.mono (by decide)) ⟨⟨_, _, _, zar, zbf, fun d G Q p q => z13 p q, T.zmj, T.zl4⟩, fun d p => zy3 p⟩) (zk (za (za3 T.zf3 T.zen (zb 2)) (za (za3 T.zf3 T.zj8 (zb 2)) (za (za3 T.zf3 T.zge (zb 2)) zc)))) (zk (za (za3 T.zf3 T.zen (zb 1)) (za (za3 T.zf3 T.zj8 (zb 1)) (za (za3 T.zf3 T.zge (zb 1)) zc)))) (nomark _))))) zc)))))
theorem zoz (T : Txt P K mg) (zbf : FnD P w K mg base 1 T.zbg T.zcg ["self", "other"] zar) : FnD P w K mg base 5 T.zbu T.zc0 ["skies"] zbw :=
  fn_d T.zkt ze9 znw (zo2 T zbf) zoo
theorem zqd [Bs] (T : Txt P K mg) (zeb : FnD P w K mg base 5 T.zbu T.zc0 ["skies"] zbw) (zb7 : FnD P w K mg base 2 T.zdg T.ze0 ["thing"] zb8) (zt : FnD P w K mg base 1 T.za7 T.zbe ["thing", "low", "high"] zy) (cdv : Value) (A : Around) (outer : List Env) (s : Shared) (H : Hp) (E : XK) (hr : Room 5 (A.deeper (envOfC "Craft.__init__" (defScope z9) s.heap.objs.size T.zb3 cdv))) :
    PSsD (cxOf CX0 P w K mg base zdb "Craft.__init__" (defScope z9) T.zb3 cdv A outer s H E).nox (defBody z9) zl0 :=
  (zg (zbp (zov (zik (ze4 (zc9 (zp (zl7 T.isi) T.zb1 zbh (za (zb 1) (za (zir T.zhm zfw) zc))))) (zik (z6 (z9b hr.units) (zb 1) (zk zc) (nomark _)) (zjk (ze4 (zc9 (zp (znq rfl) T.zul znt (za (zb6 (zhc (own := [("one", 5)]) rfl zb9.nd (zea (zb 1)) (blkOk_by (N := zdb) (sc := defScope z9) (by decide +kernel)) (fun _ _ _ _ _ => (zm (i := 5) zb9.nd rfl (Or.inl rfl))) (fun _ _ _ _ _ => zdj) (fun _ _ _ _ _ => (zp (zl7 T.isi) T.zb1 zbh (za (zb 5) (za (zv6 T.z6p) zc)))))) zc))))))))
      (zh zbz)
      z7)
      (zg (zbp (ze4 (zc9 (zl zeb (hr.mono (by decide)) T.zpr T.zkt.kp T.zoy (za (zb 1) zc))))
      (zh zbz)
      z7)
      (zg (zbp (ze4 (zc9 (zl zb7 (hr.mono (by decide)) T.zp2 T.znc.kp T.zoj (za (zb 2) zc))))
      (zh zbz)
      z7)
      (zg (zbp (ze4 (zc9 (zl zt (hr.mono (by decide)) T.zd9 T.zda.kp T.zc6 (za (zb 3) (za ze (za (zcu (Classical.choose_spec T.zzn)) zc))))))
      (zh zbz)
      z7)
      (zg (zbp (zov (zik (ze4 (zc9 (zp (zl7 T.isi) T.zb1 zbh (za (zb 4) (za (zir T.zhm zfw) zc))))) (zjk (ze4 (zc9 (zp (znq rfl) T.zul znt (za (zb6 (zhc (own := [("one", 5)]) rfl zb9.nd (zea (zb 4)) (blkOk_by (N := zdb) (sc := defScope z9) (by decide +kernel)) (fun _ _ _ _ _ => (zm (i := 5) zb9.nd rfl (Or.inl rfl))) (fun _ _ _ _ _ => zdj) (fun _ _ _ _ _ => (zp (zl7 T.isi) T.zb1 zbh (za (zb 5) (za (zv6 T.zpw) zc)))))) zc)))))))
      (zh zbz)
      z7)
      (zg (zbp (zc9 (zp (z92 rfl) T.zabr z9j (za (zb6 (zhc (own := [("one", 5)]) rfl zb9.nd (zea (zb 4)) (blkOk_by (N := zdb) (sc := defScope z9) (by decide +kernel)) (fun _ _ _ _ _ => (zm (i := 5) zb9.nd rfl (Or.inl rfl))) (fun _ _ _ _ _ => zdj) (fun _ _ _ _ _ => (zlp (zkh (zk2 hr.units) (za3 T.zpt T.zqu (zb 5)) zab (nomark _)) (zp1 (zkh (z8d hr.units) (za3 T.zpt T.zsn (zb 5)) (zp zhd T.zmq zhb (za (zb 1) zc)) (nomark _))))))) zc)))
      (zh zbz)
      z7)
      (zg (ze5 T.zce T.zdw (zb 0) (zb 1))
      (zg (ze5 T.zce T.zgq (zb 0) (zb 2))
      (zg (ze5 T.zce T.zis (zb 0) (zb 3))
      (zh (ze5 T.zce T.zuk (zb 0) (zb 4))))))))))))
theorem zpv (T : Txt P K mg) (zeb : FnD P w K mg base 5 T.zbu T.zc0 ["skies"] zbw) (zb7 : FnD P w K mg base 2 T.zdg T.ze0 ["thing"] zb8) (zt : FnD P w K mg base 1 T.za7 T.zbe ["thing", "low", "high"] zy) : FnD P w K mg base 6 T.zb3 T.zdf ["self", "skies", "foot", "room", "deeds"] zca :=
  fn_d T.zq3 zb9 zpi (zqd T zeb zb7 zt) zpg
theorem ztp [Bs] (T : Txt P K mg) (cdv : Value) (A : Around) (outer : List Env) (s : Shared) (H : Hp) (E : XK) (hr : Room 0 (A.deeper (envOfC "_law_number" (defScope zbl) s.heap.objs.size T.zdr cdv))) :
    PSsD (cxOf CX0 P w K mg base ziu "_law_number" (defScope zbl) T.zdr cdv A outer s H E).nox (defBody zbl) zlj :=
  (zg (zm3 (zpj (z6 (zni hr.units) (zb 0) (zd1 zc) (nomark _)) (zk (za (zap (ixd hr.units) (zb 0) (zu zqm (zb 1) (zp zhd T.zmq zhb (za (zb 0) zc)))) (za (zu zki (zb 1) (zp zhd T.zmq zhb (za (zb 0) zc))) zc))) (zk (za ze (za ze zc)))) (zej rfl (zs (zm (i := 2) zcy.nd rfl (Or.inl rfl)) (zs (zm (i := 3) zcy.nd rfl (Or.inl rfl)) zcv))))
      (zg (zb5 (i := 4) zcy.nd rfl (Or.inl rfl) (zpj (z6 (z54 hr.units) (zb 3) ze (nomark _)) (zu zfc (zb 2) (zu zaam ze ze)) ze))
      (zg (zc7 PassesOwn.never rfl (zhk T.zfg (za (zu zqm (za9 zr6 T.zun zno (za (zb 3) zc)) ze) zc)) (zm (i := 5) zcy.nd rfl (Or.inl rfl))
      (zh (zb5 (i := 4) zcy.nd rfl (Or.inl rfl) (zu zki (zb 4) ze))))
      (zg (zbp (z6 (zum hr.units) (zb 4) ze (nomark _))
      (zh (zaf (zu zqm (za9 zr6 T.zun zno (za (zb 4) zc)) ze)))
      z7)
      (zg (zb5 (i := 6) zcy.nd rfl (Or.inl rfl) (zu zqm (zu zcb (zu zqo (za9 zr6 T.zun zno (za (zu zcb (zb 2) (zu zqo ze (zb 1))) zc)) ze) (zu zqo ze (zp zhd T.zmq zhb (za (zb 0) zc)))) ze))
      (zg (zb5 (i := 6) zcy.nd rfl (Or.inl rfl) (zu zqm (zu zcb (zu zqo (zb 6) (zb 6)) (zu zqo ze (zb 1))) ze))
      (zh (zaf (za9 zr6 T.zun zno (za (zu zqm (zu zcb (zu zqo (zb 6) ze) (zu zki (zb 6) ze)) ze) zc))))))))))
theorem zud (T : Txt P K mg) : FnD P w K mg base 1 T.zdr T.zfu ["script", "index"] zdx :=
  fn_d T.zph zcy zs3 (ztp T) ztj
theorem zxi [Bs] (T : Txt P K mg) (zg1 : FnD P w K mg base 1 T.zdr T.zfu ["script", "index"] zdx) (cdv : Value) (A : Around) (outer : List Env) (s : Shared) (H : Hp) (E : XK) (hr : Room 1 (A.deeper (envOfC "_law_take" (defScope zcs) s.heap.objs.size T.zas cdv))) :
    PSsD (cxOf CX0 P w K mg base zlv "_law_take" (defScope zcs) T.zas cdv A outer s H E).nox (defBody zcs) zob :=
  (zg (z5z (zb 0) ze z50 ze z72 (z4i hr.units))
      (zh (zaf (zu zqm (za9 zr6 T.zun zno (za (zl zg1 (hr.mono (by decide)) T.zwy T.zph.kp T.zuc (za (zap (ixd hr.units) (zb 0) ze) (za (za9 zr6 T.zun zno (za (zap (ixd hr.units) (zb 0) ze) zc)) zc))) zc)) (zb 1)))))
theorem zx5 (T : Txt P K mg) (zg1 : FnD P w K mg base 1 T.zdr T.zfu ["script", "index"] zdx) : FnD P w K mg base 2 T.zas T.za4 ["draw", "many"] zi :=
  fn_d T.zv zx7 zvl (zxi T zg1) zwj
theorem zt6 [Bs] (T : Txt P K mg) (zz : FnD P w K mg base 3 T.zaj T.za2 ["self", "craters"] z4) (zj : FnD P w K mg base 2 T.zas T.za4 ["draw", "many"] zi) (cdv : Value) (A : Around) (outer : List Env) (s : Shared) (H : Hp) (E : XK) (hr : Room 4 (A.deeper (envOfC "_law_ground" (defScope zbk) s.heap.objs.size T.zdq cdv))) :
    PSsD (cxOf CX0 P w K mg base zim "_law_ground" (defScope zbk) T.zdq cdv A outer s H E).nox (defBody zbk) zln :=
  (zg (zb5 (i := 1) zkl.nd rfl (Or.inl rfl) (ziv zc))
      (zg (zc7 PassesOwn.never rfl (zhk T.zfg (za (zu zcb ze (zu zki (zl zj (hr.mono (by decide)) T.zx T.zv.kp T.zr (za (zb 0) (za ze zc))) ze)) zc)) (zm (i := 2) zkl.nd rfl (Or.inl rfl))
      (zh (zfa (zit PySem.F.plainAttrs_list PySem.F.slot_list_append PySem.F.type_list_append zes (zb 1) (za (zk (za (zu zfc (zl zj (hr.mono (by decide)) T.zx T.zv.kp T.zr (za (zb 0) (za ze zc))) ze) (za (zu zfc (zl zj (hr.mono (by decide)) T.zx T.zv.kp T.zr (za (zb 0) (za ze zc))) ze) (za (zu zcb ze (zu zki (zl zj (hr.mono (by decide)) T.zx T.zv.kp T.zr (za (zb 0) (za ze zc))) ze)) zc)))) zc)))))
      (zfv 1 (zh (zaf (zb6 (zfx T.zo0 zz (hr.mono (by decide)) T.zmr T.ze6 (za (zb6 (zvf rfl (have h := DL.Room.u65 hr; h) T.zv7 T.z86 (zb 1))) zc))))))))
theorem zub (T : Txt P K mg) (zz : FnD P w K mg base 3 T.zaj T.za2 ["self", "craters"] z4) (zj : FnD P w K mg base 2 T.zas T.za4 ["draw", "many"] zi) : FnD P w K mg base 5 T.zdq T.zfn ["draw"] zdy :=
  fn_d T.zpa zkl zsp (zt6 T zz zj) zr4
theorem zxs [Bs] (T : Txt P K mg) (zj : FnD P w K mg base 2 T.zas T.za4 ["draw", "many"] zi) (cdv : Value) (A : Around) (outer : List Env) (s : Shared) (H : Hp) (E : XK) (hr : Room 2 (A.deeper (envOfC "_law_pick" (defScope zcr) s.heap.objs.size T.zbx cdv))) :
    PSsD (cxOf CX0 P w K mg base zlw "_law_pick" (defScope zcr) T.zbx cdv A outer s H E).nox (defBody zcr) zok :=
  (zh (zaf (zap (ixd hr.units) (zb 1) (zl zj (hr.mono (by decide)) T.zx T.zv.kp T.zr (za (zb 0) (za (zp zhd T.zmq zhb (za (zb 1) zc)) zc))))))
theorem zxr (T : Txt P K mg) (zj : FnD P w K mg base 2 T.zas T.za4 ["draw", "many"] zi) : FnD P w K mg base 3 T.zbx T.zco ["draw", "items"] z5 :=
  fn_d T.zdv zxn zwl (zxs T zj) zw1
theorem z61 [Bs] (T : Txt P K mg) (zq : FnD P w K mg base 4 T.zaa T.zam ["self", "kind", "fuel", "aim", "slips"] zw) (cdv : Value) (A : Around) (outer : List Env) (s : Shared) (H : Hp) (E : XK) (hr : Room 5 (A.deeper (envOfC "look" (defScope zmo) s.heap.objs.size T.zqn cdv))) :
    PSsD (cxOf CX0 P w K mg base z0w "look" (defScope zmo) T.zqn cdv A outer s H E).nox (defBody zmo) z18 :=
  (zh (zaf (zb6 (zfx T.zsh zq (hr.mono (by decide)) T.zpw T.zew (za zab (za (zb 0) (za (zb 1) (za (zk (za (zk (za ze (za ze zc))) zc)) zc))))))))
theorem z8j (T : Txt P K mg) (zq : FnD P w K mg base 4 T.zaa T.zam ["self", "kind", "fuel", "aim", "slips"] zw) : FnD P w K mg base 6 T.zqn T.zvc ["fuel", "aim"] zn6 :=
  fn_d T.z6f z6y z4j (z61 T zq) z6a
theorem z8g [Bs] (T : Txt P K mg) (zq : FnD P w K mg base 4 T.zaa T.zam ["self", "kind", "fuel", "aim", "slips"] zw) (cdv : Value) (A : Around) (outer : List Env) (s : Shared) (H : Hp) (E : XK) (hr : Room 5 (A.deeper (envOfC "step" (defScope zmi) s.heap.objs.size T.zqv cdv))) :
    PSsD (cxOf CX0 P w K mg base z0d "step" (defScope zmi) T.zqv cdv A outer s H E).nox (defBody zmi) z3k :=
  (zh (zaf (zb6 (zfx T.zsh zq (hr.mono (by decide)) T.zpw T.zew (za zab (za (zb 0) (za (zb 1) (za (zb 2) zc))))))))
theorem z6x (T : Txt P K mg) (zq : FnD P w K mg base 4 T.zaa T.zam ["self", "kind", "fuel", "aim", "slips"] zw) : FnD P w K mg base 6 T.zqv T.zvi ["fuel", "aim", "slips"] zom :=
  fn_d T.z6l z60 z46 (z8g T zq) z5d
theorem z7y [Bs] (T : Txt P K mg) (zq : FnD P w K mg base 4 T.zaa T.zam ["self", "kind", "fuel", "aim", "slips"] zw) (cdv : Value) (A : Around) (outer : List Env) (s : Shared) (H : Hp) (E : XK) (hr : Room 5 (A.deeper (envOfC "land" (defScope zl2) s.heap.objs.size T.zqi cdv))) :
    PSsD (cxOf CX0 P w K mg base z0i "land" (defScope zl2) T.zqi cdv A outer s H E).nox (defBody zl2) z2j :=
  (zh (zaf (zb6 (zfx T.zsh zq (hr.mono (by decide)) T.zpw T.zew (za zab (za (zb 0) (za zvw (za (zb 1) zc))))))))
theorem z6z (T : Txt P K mg) (zq : FnD P w K mg base 4 T.zaa T.zam ["self", "kind", "fuel", "aim", "slips"] zw) : FnD P w K mg base 6 T.zqi T.zu9 ["fuel", "slips"] zoc :=
  fn_d T.z6g z8m z5b (z7y T zq) z5x
theorem z73 [Bs] (T : Txt P K mg) (zq : FnD P w K mg base 4 T.zaa T.zam ["self", "kind", "fuel", "aim", "slips"] zw) (cdv : Value) (A : Around) (outer : List Env) (s : Shared) (H : Hp) (E : XK) (hr : Room 5 (A.deeper (envOfC "away" (defScope zl6) s.heap.objs.size T.zqr cdv))) :
    PSsD (cxOf CX0 P w K mg base z0j "away" (defScope zl6) T.zqr cdv A outer s H E).nox (defBody zl6) z2t :=
  (zh (zaf (zb6 (zfx T.zsh zq (hr.mono (by decide)) T.zpw T.zew (za zab (za (zb 0) (za zvw (za (zk (za (zk (za ze (za ze zc))) zc)) zc))))))))
theorem z7c (T : Txt P K mg) (zq : FnD P w K mg base 4 T.zaa T.zam ["self", "kind", "fuel", "aim", "slips"] zw) : FnD P w K mg base 6 T.zqr T.zu1 ["fuel"] zoh :=
  fn_d T.z6q z7t z56 (z73 T zq) z4z
theorem zww [Bs] (T : Txt P K mg) (z8 : FnD P w K mg base 3 T.zbx T.zco ["draw", "items"] z5) (zj : FnD P w K mg base 2 T.zas T.za4 ["draw", "many"] zi) (zw9 : FnD P w K mg base 6 T.zqr T.zu1 ["fuel"] zoh) (zxu : FnD P w K mg base 6 T.zqi T.zu9 ["fuel", "slips"] zoc) (zxa : FnD P w K mg base 6 T.zqn T.zvc ["fuel", "aim"] zn6) (zyo : FnD P w K mg base 6 T.zqv T.zvi ["fuel", "aim", "slips"] zom) (zxv : FnD P w K mg base 6 T.zqg T.zux ["fuel", "aim"] zoe) (cdv : Value) (A : Around) (outer : List Env) (s : Shared) (H : Hp) (E : XK) (hr : Room 6 (A.deeper (envOfC "_law_deeds" (defScope zbo) s.heap.objs.size T.zeg cdv))) :
    PSsD (cxOf CX0 P w K mg base zjr "_law_deeds" (defScope zbo) T.zeg cdv A outer s H E).nox (defBody zbo) zmz :=
  (zg (zb5 (i := 2) zeo.nd rfl (Or.inl rfl) (zd1 (za (zk (za ze (za ze zc))) (za (zk (za ze (za ze zc))) (za (zk (za (zkk ze) (za ze zc))) (za (zk (za ze (za (zkk ze) zc))) (za (zk (za ze (za ze zc))) (za (zk (za ze (za ze zc))) zc))))))))
      (zg (zb5 (i := 3) zeo.nd rfl (Or.inl rfl) (zd1 (za (zk (za (zk (za ze (za ze zc))) zc)) (za (zk (za (zk (za ze (za ze zc))) zc)) (za (zk (za (zk (za ze (za ze zc))) (za (zk (za ze (za ze zc))) zc))) (za (zk (za (zk (za ze (za ze zc))) (za (zk (za ze (za (zkk ze) zc))) zc))) (za (zk (za (zk (za (zkk ze) (za ze zc))) (za (zk (za ze (za ze zc))) (za (zk (za ze (za ze zc))) zc)))) (za (zk (za (zk (za ze (za ze zc))) zc)) (za (zk (za (zk (za ze (za ze zc))) zc)) (za (zk (za (zk (za ze (za ze zc))) (za (zk (za ze (za ze zc))) zc))) (za (zk (za (zk (za ze (za ze zc))) zc)) (za (zk (za (zk (za (zkk ze) (za ze zc))) (za (zk (za ze (za ze zc))) zc))) zc))))))))))))
      (zg (zsa (i := 4) (own := [("number", 5)]) rfl zeo.nd rfl rfl (sw_true rfl rfl rfl (by decide +kernel)) (zhk T.zfg (za (zb 1) zc)) (blkOk_by (N := zjr) (sc := defScope zbo) (by decide +kernel)) (fun _ _ _ _ _ => (zm (i := 5) zeo.nd rfl (Or.inl rfl))) (fun _ _ _ _ _ => zdj) (fun _ _ _ _ _ => (zl zxa (hr.mono (by decide)) T.z9m T.z6f.kp T.z7x (za (zl z8 (hr.mono (by decide)) T.zek T.zdv.kp T.zdl (za (zb 0) (za (zd1 (za ze (za ze (za ze (za ze (za ze zc)))))) zc))) (za (zb 5) zc)))))
      (zg (zc7 PassesOwn.never rfl (zhk T.zfg (za (zu zcb ze (zl zj (hr.mono (by decide)) T.zx T.zv.kp T.zr (za (zb 0) (za ze zc)))) zc)) (zm (i := 5) zeo.nd rfl (Or.inl rfl))
      (zh (zfa (zit PySem.F.plainAttrs_list PySem.F.slot_list_append PySem.F.type_list_append zes (zb 4) (za (zl zyo (hr.mono (by decide)) T.z94 T.z6l.kp T.z7h (za (zu zcb ze (zl zj (hr.mono (by decide)) T.zx T.zv.kp T.zr (za (zb 0) (za ze zc)))) (za (zl z8 (hr.mono (by decide)) T.zek T.zdv.kp T.zdl (za (zb 0) (za (zb 2) zc))) (za (zl z8 (hr.mono (by decide)) T.zek T.zdv.kp T.zdl (za (zb 0) (za (zb 3) zc))) zc)))) zc)))))
      (zg (zbp (z6 (zk2 hr.units) (zl zj (hr.mono (by decide)) T.zx T.zv.kp T.zr (za (zb 0) (za ze zc))) ze (nomark _))
      (zh (zfa (zit PySem.F.plainAttrs_list PySem.F.slot_list_append PySem.F.type_list_append zes (zb 4) (za (zl zxv (hr.mono (by decide)) T.z9r T.z6s.kp T.z8b (za (zl z8 (hr.mono (by decide)) T.zek T.zdv.kp T.zdl (za (zb 0) (za (zd1 (za ze (za ze (za ze (za ze zc))))) zc))) (za (zu zcb ze (zl zj (hr.mono (by decide)) T.zx T.zv.kp T.zr (za (zb 0) (za ze zc)))) zc))) zc))))
      z7)
      (zg (zbp (z6 (zum hr.units) (zl zj (hr.mono (by decide)) T.zx T.zv.kp T.zr (za (zb 0) (za ze zc))) ze (nomark _))
      (zh (zfa (zit PySem.F.plainAttrs_list PySem.F.slot_list_append PySem.F.type_list_append zes (zb 4) (za (zl zxu (hr.mono (by decide)) T.z96 T.z6g.kp T.z7b (za (zl z8 (hr.mono (by decide)) T.zek T.zdv.kp T.zdl (za (zb 0) (za (zd1 (za ze (za ze (za ze (za ze (za ze zc)))))) zc))) (za (zl z8 (hr.mono (by decide)) T.zek T.zdv.kp T.zdl (za (zb 0) (za (zb 3) zc))) zc))) zc))))
      z7)
      (zg (zbp (z6 (zum hr.units) (zl zj (hr.mono (by decide)) T.zx T.zv.kp T.zr (za (zb 0) (za ze zc))) ze (nomark _))
      (zh (zfa (zit PySem.F.plainAttrs_list PySem.F.slot_list_append PySem.F.type_list_append zes (zb 4) (za (zl zw9 (hr.mono (by decide)) T.z98 T.z6q.kp T.z76 (za (zu zcb ze (zl zj (hr.mono (by decide)) T.zx T.zv.kp T.zr (za (zb 0) (za ze zc)))) zc)) zc))))
      z7)
      (zg (zb5 (i := 6) zeo.nd rfl (Or.inl rfl) (ziv zc))
      (zg (zxc PassesOwn.never (z6 (z7z hr.units) (zb 4) (zd1 zc) (nomark _))
      (zh (zfa (zit PySem.F.plainAttrs_list PySem.F.slot_list_append PySem.F.type_list_append zes (zb 6) (za (zit PySem.F.plainAttrs_list PySem.F.slot_list_pop PySem.F.type_list_pop z06 (zb 4) (za (zl zj (hr.mono (by decide)) T.zx T.zv.kp T.zr (za (zb 0) (za (zp zhd T.zmq zhb (za (zb 4) zc)) zc))) zc)) zc)))))
      (zfv 4 (zfv 6 (zh (zaf (za9 znb T.zhm zfw (za (zb 6) zc)))))))))))))))
theorem zv5 (T : Txt P K mg) (z8 : FnD P w K mg base 3 T.zbx T.zco ["draw", "items"] z5) (zj : FnD P w K mg base 2 T.zas T.za4 ["draw", "many"] zi) (zw9 : FnD P w K mg base 6 T.zqr T.zu1 ["fuel"] zoh) (zxu : FnD P w K mg base 6 T.zqi T.zu9 ["fuel", "slips"] zoc) (zxa : FnD P w K mg base 6 T.zqn T.zvc ["fuel", "aim"] zn6) (zyo : FnD P w K mg base 6 T.zqv T.zvi ["fuel", "aim", "slips"] zom) (zxv : FnD P w K mg base 6 T.zqg T.zux ["fuel", "aim"] zoe) : FnD P w K mg base 7 T.zeg T.zgj ["draw", "cameras"] zem :=
  fn_d T.zqh zeo ztq (zww T z8 zj zw9 zxu zxa zyo zxv) zts
theorem zt4 [Bs] (T : Txt P K mg) (zc3 : FnD P w K mg base 2 T.zbq T.zc1 ["self", "width", "height", "error", "false", "lost"] zaw) (z8 : FnD P w K mg base 3 T.zbx T.zco ["draw", "items"] z5) (zj : FnD P w K mg base 2 T.zas T.za4 ["draw", "many"] zi) (cdv : Value) (A : Around) (outer : List Env) (s : Shared) (H : Hp) (E : XK) (hr : Room 3 (A.deeper (envOfC "_law_camera" (defScope zbj) s.heap.objs.size T.zdm cdv))) :
    PSsD (cxOf CX0 P w K mg base zio "_law_camera" (defScope zbj) T.zdm cdv A outer s H E).nox (defBody zbj) zlh :=
  (zg (zbp (zov (zz5 (z6 (z54 hr.units) (zp zhd T.zmq zhb (za (za3 T.zh4 T.zbs (zb 1)) zc)) ze (nomark _)) (zv2 (z6 (zk2 hr.units) (zl zj (hr.mono (by decide)) T.zx T.zv.kp T.zr (za (zb 0) (za ze zc))) ze (nomark _)))))
      (zh (zaf (zb6 (zfx T.zxl zc3 (hr.mono (by decide)) T.zx3 T.zjv (za ze (za ze (za ze (za ze (za (zu zki (zl zj (hr.mono (by decide)) T.zx T.zv.kp T.zr (za (zb 0) (za ze zc))) ze) zc)))))))))
      z7)
      (zg (zm3 (zl z8 (hr.mono (by decide)) T.zek T.zdv.kp T.zdl (za (zb 0) (za (zd1 (za (zk (za ze (za ze zc))) (za (zk (za ze (za ze zc))) (za (zk (za ze (za ze zc))) (za (zk (za ze (za ze zc))) (za (zk (za ze (za ze zc))) zc)))))) zc))) (zej rfl (zs (zm (i := 2) zkm.nd rfl (Or.inl rfl)) (zs (zm (i := 3) zkm.nd rfl (Or.inl rfl)) zcv))))
      (zh (zaf (zb6 (zfx T.zxl zc3 (hr.mono (by decide)) T.zx3 T.zjv (za (zb 2) (za (zb 3) (za (zu zki (zl zj (hr.mono (by decide)) T.zx T.zv.kp T.zr (za (zb 0) (za ze zc))) ze) (za (zu zki (zl zj (hr.mono (by decide)) T.zx T.zv.kp T.zr (za (zb 0) (za ze zc))) ze) (za (zu zki (zl zj (hr.mono (by decide)) T.zx T.zv.kp T.zr (za (zb 0) (za ze zc))) ze) zc)))))))))))
theorem zt5 (T : Txt P K mg) (zc3 : FnD P w K mg base 2 T.zbq T.zc1 ["self", "width", "height", "error", "false", "lost"] zaw) (z8 : FnD P w K mg base 3 T.zbx T.zco ["draw", "items"] z5) (zj : FnD P w K mg base 2 T.zas T.za4 ["draw", "many"] zi) : FnD P w K mg base 4 T.zdm T.zfq ["draw", "ground"] zd0 :=
  fn_d T.zor zkm zsc (zt4 T zc3 z8 zj) zr8
theorem zwb [Bs] (T : Txt P K mg) (zeu : FnD P w K mg base 6 T.zb3 T.zdf ["self", "skies", "foot", "room", "deeds"] zca) (zfz : FnD P w K mg base 2 T.zcw T.ze3 ["self", "ground", "camera", "turns", "area"] zc4) (zgy : FnD P w K mg base 4 T.zdm T.zfq ["draw", "ground"] zd0) (zh2 : FnD P w K mg base 7 T.zeg T.zgj ["draw", "cameras"] zem) (zgn : FnD P w K mg base 5 T.zdq T.zfn ["draw"] zdy) (z8 : FnD P w K mg base 3 T.zbx T.zco ["draw", "items"] z5) (zj : FnD P w K mg base 2 T.zas T.za4 ["draw", "many"] zi) (cdv : Value) (A : Around) (outer : List Env) (s : Shared) (H : Hp) (E : XK) (hr : Room 7 (A.deeper (envOfC "_law_craft" (defScope zbt) s.heap.objs.size T.zef cdv))) :
    PSsD (cxOf CX0 P w K mg base zhz "_law_craft" (defScope zbt) T.zef cdv A outer s H E).nox (defBody zbt) zm1 :=
  (zg (zm3 (zk (za (zl zgn (hr.mono (by decide)) T.zv0 T.zpa.kp T.ztr (za (zb 0) zc)) (za (zl z8 (hr.mono (by decide)) T.zek T.zdv.kp T.zdl (za (zb 0) (za (zd1 (za (zk (za ze zc)) (za (zk (za ze zc)) (za (zk (za ze (za ze zc))) (za (zk (za ze (za ze zc))) (za (zk (za ze (za ze zc))) zc)))))) zc))) zc))) (zej rfl (zs (zm (i := 1) zdn.nd rfl (Or.inr rfl)) (zs (zm (i := 2) zdn.nd rfl (Or.inr rfl)) zcv))))
      (zg (zpp (i := 3) (j := 4) rfl zdn.nd rfl rfl (by decide) rfl rfl (za (zkk (zl zj (hr.mono (by decide)) T.zx T.zv.kp T.zr (za (zb 0) (za ze zc)))) (za (zkk (zl zj (hr.mono (by decide)) T.zx T.zv.kp T.zr (za (zb 0) (za ze zc)))) zc)) (by with_unfolding_all rfl))
      (zg (zb5 (i := 5) zdn.nd rfl (Or.inr rfl) (zk (za (zb 3) (za (zu zcb (zu zcb (zb 3) ze) (zl zj (hr.mono (by decide)) T.zx T.zv.kp T.zr (za (zb 0) (za ze zc)))) (za (zb 4) (za (zu zcb (zb 4) (zl zj (hr.mono (by decide)) T.zx T.zv.kp T.zr (za (zb 0) (za ze zc)))) zc))))))
      (zg (zb5 (i := 6) zdn.nd rfl (Or.inl rfl) (za9 znb T.zhm zfw (za (zb6 (zhc (own := [("number", 7)]) rfl zdn.nd (zhk T.zfg (za (zu zcb ze (zu zki (zl zj (hr.mono (by decide)) T.zx T.zv.kp T.zr (za (zb 0) (za ze zc))) ze)) zc)) (blkOk_by (N := zhz) (sc := defScope zbt) (by decide +kernel)) (fun _ _ _ _ _ => (zm (i := 7) zdn.nd rfl (Or.inl rfl))) (fun _ _ _ _ _ => zdj) (fun _ _ _ _ _ => (zb6 (zfx T.zaar zfz (hr.mono (by decide)) T.z6p T.zsx (za (zb 1) (za (zl zgy (hr.mono (by decide)) T.zwd T.zor.kp T.ztz (za (zb 0) (za (zb 1) zc))) (za (zb 2) (za (zb 5) zc))))))))) zc)))
      (zh (zaf (zb6 (zfx T.z5u zeu (hr.mono (by decide)) T.z4m T.zpy (za (zb 6) (za (zk (za (zl zj (hr.mono (by decide)) T.zx T.zv.kp T.zr (za (zb 0) (za ze zc))) (za (zl zj (hr.mono (by decide)) T.zx T.zv.kp T.zr (za (zb 0) (za ze zc))) zc))) (za (zl zj (hr.mono (by decide)) T.zx T.zv.kp T.zr (za (zb 0) (za ze zc))) (za (zl zh2 (hr.mono (by decide)) T.zxz T.zqh.kp T.zv1 (za (zb 0) (za (zp zhd T.zmq zhb (za (zb 6) zc)) zc))) zc))))))))))))
theorem zwq (T : Txt P K mg) (zeu : FnD P w K mg base 6 T.zb3 T.zdf ["self", "skies", "foot", "room", "deeds"] zca) (zfz : FnD P w K mg base 2 T.zcw T.ze3 ["self", "ground", "camera", "turns", "area"] zc4) (zgy : FnD P w K mg base 4 T.zdm T.zfq ["draw", "ground"] zd0) (zh2 : FnD P w K mg base 7 T.zeg T.zgj ["draw", "cameras"] zem) (zgn : FnD P w K mg base 5 T.zdq T.zfn ["draw"] zdy) (z8 : FnD P w K mg base 3 T.zbx T.zco ["draw", "items"] z5) (zj : FnD P w K mg base 2 T.zas T.za4 ["draw", "many"] zi) : FnD P w K mg base 8 T.zef T.zgg ["draw"] zeh :=
  fn_d T.zqs zdn zui (zwb T zeu zfz zgy zh2 zgn z8 zj) zt0
theorem zup [Bs] (T : Txt P K mg) (zz : FnD P w K mg base 3 T.zaj T.za2 ["self", "craters"] z4) (U : DXK) (cdv : Value) (A : Around) (outer : List Env) (s : Shared) (H : Hp) (E : XK) (hr : Room 4 (A.deeper (envOfC "read_ground" (defScope zaq) s.heap.objs.size T.za6 cdv)))
    (tk : Takes (cxOf (L2.CX P w) P w K mg base zdp "read_ground" (defScope zaq) T.za6 cdv A outer s H E) (ztu ⟨K, w⟩ U)) (po : PassesOwn (model P w) (cxOf (L2.CX P w) P w K mg base zdp "read_ground" (defScope zaq) T.za6 cdv A outer s H E).A (cxOf (L2.CX P w) P w K mg base zdp "read_ground" (defScope zaq) T.za6 cdv A outer s H E).env (cxOf (L2.CX P w) P w K mg base zdp "read_ground" (defScope zaq) T.za6 cdv A outer s H E).xe) :
    PSsD (cxOf (L2.CX P w) P w K mg base zdp "read_ground" (defScope zaq) T.za6 cdv A outer s H E) (defBody zaq) (zil U) :=
  (zg (zpp (i := 1) (j := 2) rfl zex.nd rfl rfl (by decide) rfl rfl (za (zb6 (zit PySem.F.plainAttrs_str PySem.F.slot_str_split PySem.F.type_str_split z4x (zb 0) (za zab zc))) (za (ziv zc) zc)) (by with_unfolding_all rfl))
      (zg (zc7 po rfl (zwi T.zjh (za (zb 1) zc)) (zej rfl (zs (zm (i := 3) zex.nd rfl (Or.inl rfl)) (zs (zm (i := 4) zex.nd rfl (Or.inl rfl)) zcv)))
      (zg (zbp (zov (zik (z6 (zk2 hr.units) (zb 4) zab (nomark _)) (zik (z6 (zum hr.units) (zp zhd T.zmq zhb (za (zb 4) zc)) (zcu (Classical.choose_spec T.zij)) (nomark _)) (zik (z6 (zni hr.units) (zp zhd T.zmq zhb (za (zb 4) zc)) (zp zhd T.zmq zhb (za (zap (ixd hr.units) (zb 1) ze) zc)) (nomark _)) (zjk (z6 (z8d hr.units) (zb 3) (zcu (Classical.choose_spec T.zij)) (nomark _)))))))
      (zh (zve rfl T.zvj T.zpz hr tk (za (zb 3) (za ze zc))))
      z7)
      (zh (zc7 po rfl (zyq T.zjh (za (zb 4) zc)) (zej rfl (zs (zm (i := 5) zex.nd rfl (Or.inl rfl)) (zs (zm (i := 6) zex.nd rfl (Or.inl rfl)) zcv)))
      (zg (zbp (zov (zz5 (z6 (zni hr.units) (zb 6) zab (nomark _)) (zv2 (z6 z2c (zb 6) (z4r (Classical.choose_spec T.z2z)) (by with_unfolding_all rfl)))))
      (zh (zve rfl T.zvj T.zpz hr tk (za (zb 3) (za (zb 5) zc))))
      z7)
      (zh (zbp (z6 (zni hr.units) (zb 6) zab (nomark _))
      (zh (zfa (zit PySem.F.plainAttrs_list PySem.F.slot_list_append PySem.F.type_list_append zes (zb 2) (za (zk (za (zb 5) (za (zb 3) (za (za9 z4b T.zun zno (za (zb 6) zc)) zc)))) zc))))
      z7)))))))
      (zfv 2 (zh (zaf (zb6 (zfx T.zo0 zz (hr.mono (by decide)) T.zmr T.ze6 (za (zb 2) zc))))))))
theorem zuj (T : Txt P K mg) (zz : FnD P w K mg base 3 T.zaj T.za2 ["self", "craters"] z4) : FnX P w K mg base 5 T.za6 T.zdi ["text"] zbv :=
  fn_x (T := zil) T.zld zex zsk (zup T zz) zsw
theorem zrb [Bs] (T : Txt P K mg) (cdv : Value) (A : Around) (outer : List Env) (s : Shared) (H : Hp) (E : XK) (hr : Room 0 (A.deeper (envOfC "Sky.standings" (defScope za0) s.heap.objs.size T.zci cdv))) :
    PSsD (cxOf CX0 P w K mg base zgm "Sky.standings" (defScope za0) T.zci cdv A outer s H E).nox (defBody za0) zjd :=
  (zg (zb5 (i := 1) zer.nd rfl (Or.inl rfl) (ziv zc))
      (zg (zc7 PassesOwn.never rfl (zea (za3 T.zf3 T.zj8 (zb 0))) (zm (i := 2) zer.nd rfl (Or.inl rfl))
      (zh (zc7 PassesOwn.never rfl (zey T.zfg (za (zap (ixd hr.units) (za3 T.zf3 T.zge (zb 0)) ze) (za (zu zcb (zap (ixd hr.units) (za3 T.zf3 T.zge (zb 0)) ze) ze) zc))) (zm (i := 3) zer.nd rfl (Or.inl rfl))
      (zh (zc7 PassesOwn.never rfl (zey T.zfg (za (zap (ixd hr.units) (za3 T.zf3 T.zge (zb 0)) ze) (za (zu zcb (zap (ixd hr.units) (za3 T.zf3 T.zge (zb 0)) ze) ze) zc))) (zm (i := 4) zer.nd rfl (Or.inl rfl))
      (zh (zfa (zit PySem.F.plainAttrs_list PySem.F.slot_list_append PySem.F.type_list_append zes (zb 1) (za (zk (za (zb 2) (za (zb 3) (za (zb 4) zc)))) zc)))))))))
      (zfv 1 (zh (zaf (za9 znb T.zhm zfw (za (zb 1) zc)))))))
theorem zq6 (T : Txt P K mg) : FnD P w K mg base 1 T.zci T.zd2 ["self"] zb4 :=
  fn_d T.zsu zer zp9 (zrb T) zqb
theorem ztv [Bs] (T : Txt P K mg) (zd8 : FnD P w K mg base 1 T.zci T.zd2 ["self"] zb4) (zj : FnD P w K mg base 2 T.zas T.za4 ["draw", "many"] zi) (cdv : Value) (A : Around) (outer : List Env) (s : Shared) (H : Hp) (E : XK) (hr : Room 2 (A.deeper (envOfC "_law_belief" (defScope zbb) s.heap.objs.size T.zdk cdv))) :
    PSsD (cxOf CX0 P w K mg base zg9 "_law_belief" (defScope zbb) T.zdk cdv A outer s H E).nox (defBody zbb) zlq :=
  (zg (zsa (i := 2) (own := [("standing", 3)]) rfl zkb.nd rfl rfl (sw_true rfl rfl rfl (by decide +kernel)) (zea (zyl T.zf3 T.zl3 zd8 (hr.mono (by decide)) T.zmp (zap (ixd hr.units) (za3 T.zce T.zdw (zb 1)) ze))) (blkOk_by (N := zg9) (sc := defScope zbb) (by decide +kernel)) (fun _ _ _ _ _ => (zm (i := 3) zkb.nd rfl (Or.inl rfl))) (fun _ _ _ _ _ => (zrs (z6 (zum hr.units) (zl zj (hr.mono (by decide)) T.zx T.zv.kp T.zr (za (zb 0) (za ze zc))) ze (nomark _)))) (fun _ _ _ _ _ => (zb 3)))
      (zg (zxc PassesOwn.never (z6 (zum hr.units) (zp zhd T.zmq zhb (za (zb 2) zc)) ze (nomark _))
      (zh (zfa (zit PySem.F.plainAttrs_list PySem.F.slot_list_pop PySem.F.type_list_pop z06 (zb 2) (za (zl zj (hr.mono (by decide)) T.zx T.zv.kp T.zr (za (zb 0) (za (zp zhd T.zmq zhb (za (zb 2) zc)) zc))) zc)))))
      (zfv 2 (zh (zaf (zpj (z6 (zni hr.units) (zb 2) (zd1 zc) (nomark _)) (za9 znb T.zhm zfw (za (zb 2) zc)) (zxm sld (zyl T.zf3 T.zl3 zd8 (hr.mono (by decide)) T.zmp (zap (ixd hr.units) (za3 T.zce T.zdw (zb 1)) ze)) z0e (z00 ze))))))))
theorem zt2 (T : Txt P K mg) (zd8 : FnD P w K mg base 1 T.zci T.zd2 ["self"] zb4) (zj : FnD P w K mg base 2 T.zas T.za4 ["draw", "many"] zi) : FnD P w K mg base 3 T.zdk T.zfs ["draw", "craft"] zdu :=
  fn_d T.zo4 zkb zs8 (ztv T zd8 zj) zsf
theorem zy2 [Bs] (T : Txt P K mg) (cdv : Value) (A : Around) (outer : List Env) (s : Shared) (H : Hp) (E : XK) (hr : Room 0 (A.deeper (envOfC "is_clear" (defScope zdc) s.heap.objs.size T.ze2 cdv))) :
    PSsD (cxOf CX0 P w K mg base zm9 "is_clear" (defScope zdc) T.ze2 cdv A outer s H E).nox (defBody zdc) zp8 :=
  (zg (zc7 PassesOwn.never rfl (zea (za3 T.zh4 T.zbs (za3 T.zf3 T.zen (zap (ixd hr.units) (za3 T.zce T.zdw (zb 0)) ze)))) (zej rfl (zs (zm (i := 2) zlk.nd rfl (Or.inl rfl)) (zs (zm (i := 3) zlk.nd rfl (Or.inl rfl)) (zs (zm (i := 4) zlk.nd rfl (Or.inl rfl)) zcv))))
      (zh (zbp (z6 (z5m hr.units) (zp (zvk rfl) T.z2f zyb (za (zp zut T.z1b zuu (za (zu zfc (zb 2) (zap (ixd hr.units) (zb 1) ze)) zc)) (za (zp zut T.z1b zuu (za (zu zfc (zb 3) (zap (ixd hr.units) (zb 1) ze)) zc)) zc))) (zu zcb (za3 T.zce T.zis (zb 0)) (zb 4)) (nomark _))
      (zh (zaf znl))
      z7)))
      (zh (zaf znl)))
theorem zza (T : Txt P K mg) : FnD P w K mg base 1 T.ze2 T.zgf ["craft", "cell"] zc5 :=
  fn_d T.zne zlk zx9 (zy2 T) zyu
theorem z21 [Bs] (T : Txt P K mg) (cdv : Value) (A : Around) (outer : List Env) (s : Shared) (H : Hp) (E : XK) (hr : Room 0 (A.deeper (envOfC "turned" (defScope zf5) s.heap.objs.size T.zhv cdv))) :
    PSsD (cxOf CX0 P w K mg base zrj "turned" (defScope zf5) T.zhv cdv A outer s H E).nox (defBody zf5) zv3 :=
  (zg (zbp (z6 (zk2 hr.units) (zb 2) ze (nomark _))
      (zh (zaf (zk (za (zb 0) (za (zb 1) zc)))))
      z7)
      (zg (zbp (z6 (zk2 hr.units) (zb 2) ze (nomark _))
      (zh (zaf (zk (za (zu zfc ze (zb 1)) (za (zb 0) zc)))))
      z7)
      (zh (zaf (zpj (z6 (zk2 hr.units) (zb 2) ze (nomark _)) (zk (za (zu zfc ze (zb 0)) (za (zu zfc ze (zb 1)) zc))) (zk (za (zb 1) (za (zu zfc ze (zb 0)) zc))))))))
theorem z3g (T : Txt P K mg) : FnD P w K mg base 1 T.zhv T.zj7 ["x", "y", "turn"] zf2 :=
  fn_d T.zw3 z3i z1w (z21 T) z1t
theorem zq5 [Bs] (T : Txt P K mg) (zhx : FnD P w K mg base 1 T.zhv T.zj7 ["x", "y", "turn"] zf2) (cdv : Value) (A : Around) (outer : List Env) (s : Shared) (H : Hp) (E : XK) (hr : Room 1 (A.deeper (envOfC "Craft.is_safe" (defScope zaz) s.heap.objs.size T.zch cdv))) :
    PSsD (cxOf CX0 P w K mg base zg2 "Craft.is_safe" (defScope zaz) T.zch cdv A outer s H E).nox (defBody zaz) zi3 :=
  (zg (zm3 (zb 1) (zej rfl (zs (zm (i := 2) zbi.nd rfl (Or.inl rfl)) (zs (zm (i := 3) zbi.nd rfl (Or.inl rfl)) (zs (zm (i := 4) zbi.nd rfl (Or.inl rfl)) zcv)))))
      (zg (zc7 PassesOwn.never rfl (zea (za3 T.zh4 T.zbs (za3 T.zf3 T.zen (zap (ixd hr.units) (za3 T.zce T.zdw (zb 0)) ze)))) (zej rfl (zs (zm (i := 5) zbi.nd rfl (Or.inl rfl)) (zs (zm (i := 6) zbi.nd rfl (Or.inl rfl)) (zs (zm (i := 7) zbi.nd rfl (Or.inl rfl)) zcv))))
      (zg (zm3 (zl zhx (hr.mono (by decide)) T.z0g T.zw3.kp T.zyh (za (zb 5) (za (zb 6) (za (zb 2) zc)))) (zej rfl (zs (zm (i := 8) zbi.nd rfl (Or.inl rfl)) (zs (zm (i := 9) zbi.nd rfl (Or.inl rfl)) zcv))))
      (zh (zbp (z6 (z5m hr.units) (zp (zvk rfl) T.z2f zyb (za (zp zut T.z1b zuu (za (zu zfc (zu zcb (zb 8) (zb 3)) (zap (ixd hr.units) (za3 T.zce T.zgq (zb 0)) ze)) zc)) (za (zp zut T.z1b zuu (za (zu zfc (zu zcb (zb 9) (zb 4)) (zap (ixd hr.units) (za3 T.zce T.zgq (zb 0)) ze)) zc)) zc))) (zu zcb (za3 T.zce T.zis (zb 0)) (zb 7)) (nomark _))
      (zh (zaf znl))
      z7))))
      (zh (zaf znl))))
theorem zra (T : Txt P K mg) (zhx : FnD P w K mg base 1 T.zhv T.zj7 ["x", "y", "turn"] zf2) : FnD P w K mg base 2 T.zch T.zec ["self", "standing"] zcp :=
  fn_d T.zs1 zbi zp7 (zq5 T zhx) zqe
theorem z1x [Bs] (T : Txt P K mg) (cdv : Value) (A : Around) (outer : List Env) (s : Shared) (H : Hp) (E : XK) (hr : Room 0 (A.deeper (envOfC "sign_of" (defScope zet) s.heap.objs.size T.zf0 cdv))) :
    PSsD (cxOf CX0 P w K mg base zpb "sign_of" (defScope zet) T.zf0 cdv A outer s H E).nox (defBody zet) ztg :=
  (zg (zbp (z6 (zk2 hr.units) (zb 0) ze (nomark _))
      (zh (zaf zab))
      z7)
      (zh (zaf (zpj (z6 (z54 hr.units) (zb 0) ze (nomark _)) (za9 zy8 T.z8p z3d (za (zb 0) zc)) zab))))
theorem z1k (T : Txt P K mg) : FnD P w K mg base 1 T.zf0 T.zh7 ["size"] ze1 :=
  fn_d T.ztm z1h zzv (z1x T) zzs
theorem zuo [Bs] (T : Txt P K mg) (zf4 : FnD P w K mg base 1 T.zf0 T.zh7 ["size"] ze1) (cdv : Value) (A : Around) (outer : List Env) (s : Shared) (H : Hp) (E : XK) (hr : Room 1 (A.deeper (envOfC "draw_ground" (defScope zbc) s.heap.objs.size T.zdh cdv))) :
    PSsD (cxOf CX0 P w K mg base zgs "draw_ground" (defScope zbc) T.zdh cdv A outer s H E).nox (defBody zbc) zly :=
  (zg (zb5 (i := 3) zcf.nd rfl (Or.inr rfl) z0z)
      (zg (zc7 PassesOwn.never rfl (zea (za3 T.zh4 T.zbs (zb 0))) (zej rfl (zs (zm (i := 4) zcf.nd rfl (Or.inl rfl)) (zs (zm (i := 5) zcf.nd rfl (Or.inr rfl)) (zs (zm (i := 6) zcf.nd rfl (Or.inl rfl)) zcv))))
      (zh (zm3 (zp (zvk rfl) T.z2f zyb (za (zb 6) (za (zit PySem.F.plainAttrs_dict PySem.F.slot_dict_get PySem.F.type_dict_get (zvr hr.units) (zb 3) (za (zk (za (zb 4) (za (zb 5) zc))) (za ze zc))) zc))) (z3w (zb 3) (zk (za (zb 4) (za (zb 5) zc))) (z4i hr.units)))))
      (zfv 3 (zg (zb5 (i := 7) zcf.nd rfl (Or.inl rfl) (ziv zc))
      (zg (zc7 PassesOwn.never rfl (zey T.zfg (za (zap (ixd hr.units) (zb 1) ze) (za (zu zcb (zap (ixd hr.units) (zb 2) ze) ze) zc))) (zm (i := 5) zcf.nd rfl (Or.inr rfl))
      (zh (zfa (zit PySem.F.plainAttrs_list PySem.F.slot_list_append PySem.F.type_list_append zes (zb 7) (za (zit PySem.F.plainAttrs_str PySem.F.slot_str_join PySem.F.type_str_join zsy zab (za (zb6 (zhc (own := [("x", 4)]) rfl zcf.nd (zey T.zfg (za (zap (ixd hr.units) (zb 1) ze) (za (zu zcb (zap (ixd hr.units) (zb 2) ze) ze) zc))) (blkOk_by (N := zgs) (sc := defScope zbc) (by decide +kernel)) (fun _ _ _ _ _ => (zm (i := 4) zcf.nd rfl (Or.inl rfl))) (fun _ _ _ _ _ => zdj) (fun _ _ _ _ _ => (zl zf4 (hr.mono (by decide)) T.zx2 T.ztm.kp T.zu8 (za (zit PySem.F.plainAttrs_dict PySem.F.slot_dict_get PySem.F.type_dict_get (zvr hr.units) (zb 3) (za (zk (za (zb 4) (za (zb 5) zc))) (za ze zc))) zc))))) zc)) zc)))))
      (zfv 7 (zh (zvz (zb 7)))))))))
theorem zug (T : Txt P K mg) (zf4 : FnD P w K mg base 1 T.zf0 T.zh7 ["size"] ze1) : FnD P w K mg base 2 T.zdh T.zfp ["ground", "lows", "highs"] zcd :=
  fn_d T.zin zcf zsm (zuo T zf4) zth
theorem zn5 [Bs] (T : Txt P K mg) (zhx : FnD P w K mg base 1 T.zhv T.zj7 ["x", "y", "turn"] zf2) (cdv : Value) (A : Around) (outer : List Env) (s : Shared) (H : Hp) (E : XK) (hr : Room 1 (A.deeper (envOfC "Craft.cell_below" (defScope zad) s.heap.objs.size T.zau cdv))) :
    PSsD (cxOf CX0 P w K mg base ze7 "Craft.cell_below" (defScope zad) T.zau cdv A outer s H E).nox (defBody zad) zg3 :=
  (zg (zm3 (zb 1) (zej rfl (zs (zm (i := 2) zeq.nd rfl (Or.inl rfl)) (zs (zm (i := 3) zeq.nd rfl (Or.inl rfl)) (zs (zm (i := 4) zeq.nd rfl (Or.inl rfl)) zcv)))))
      (zh (zaf (zl zhx (hr.mono (by decide)) T.z0g T.zw3.kp T.zyh (za (zu zfc (zap (ixd hr.units) (za3 T.zce T.zgq (zb 0)) ze) (zb 3)) (za (zu zfc (zap (ixd hr.units) (za3 T.zce T.zgq (zb 0)) ze) (zb 4)) (za (zu zqm (za9 zr6 T.zun zno (za (zu zfc ze (zb 2)) zc)) ze) zc)))))))
theorem zn3 (T : Txt P K mg) (zhx : FnD P w K mg base 1 T.zhv T.zj7 ["x", "y", "turn"] zf2) : FnD P w K mg base 2 T.zau T.zbd ["self", "standing"] zae :=
  fn_d T.zpc zeq znk (zn5 T zhx) znh
theorem zv9 [Bs] (T : Txt P K mg) (zcc : FnX P w K mg base 5 T.za6 T.zdi ["text"] zbv) (cdv : Value) (A : Around) (outer : List Env) (s : Shared) (H : Hp) (E : XK) (hr : Room 5 (A.deeper (envOfC "_law_fault" (defScope zb2) s.heap.objs.size T.zed cdv))) :
    PSsD (cxOf CX0 P w K mg base zjs "_law_fault" (defScope zb2) T.zed cdv A outer s H E).nox (defBody zb2) zm5 :=
  (zg (z5p (C := CA.BadText) (oth := []) (i := 1) rfl rfl zo7.nd rfl rfl T.zpz T.z10 (fun _ hC => nomatch hC) z04 (fun U1 pn1 xe1 tk1 po1 => (zh (zfa (zxh zcc (hr.mono (by decide)) T.zot T.zld.kp T.zns tk1 (za (zb 0) zc)))))
      (fun a1 oe1 cls1 d1 pn1 x1 hz1 hv1 xr1 hb1 => (zh (zaf (zk (za (z6i T.zu2 T.zjc hz1 hv1 xr1 hb1 (zb 1)) (za (z6i T.zu2 T.zi4 hz1 hv1 xr1 hb1 (zb 1)) zc)))))))
      (zh (zaf zvw)))
theorem zw8 (T : Txt P K mg) (zcc : FnX P w K mg base 5 T.za6 T.zdi ["text"] zbv) : FnD P w K mg base 6 T.zed T.zgl ["text"] zel :=
  fn_d T.zqq zo7 zt3 (zv9 T zcc) zt7
theorem zwn [Bs] (T : Txt P K mg) (zd5 : FnD P w K mg base 1 T.ze2 T.zgf ["craft", "cell"] zc5) (cdv : Value) (A : Around) (outer : List Env) (s : Shared) (H : Hp) (E : XK) (hr : Room 1 (A.deeper (envOfC "draw_clear" (defScope zbr) s.heap.objs.size T.zee cdv))) :
    PSsD (cxOf CX0 P w K mg base zh0 "draw_clear" (defScope zbr) T.zee cdv A outer s H E).nox (defBody zbr) zmy :=
  (zg (zb5 (i := 3) zgu.nd rfl (Or.inl rfl) (ziv zc))
      (zg (zc7 PassesOwn.never rfl (zey T.zfg (za (zap (ixd hr.units) (zb 1) ze) (za (zu zcb (zap (ixd hr.units) (zb 2) ze) ze) zc))) (zm (i := 4) zgu.nd rfl (Or.inr rfl))
      (zh (zfa (zit PySem.F.plainAttrs_list PySem.F.slot_list_append PySem.F.type_list_append zes (zb 3) (za (zit PySem.F.plainAttrs_str PySem.F.slot_str_join PySem.F.type_str_join zsy zab (za (zb6 (zhc (own := [("x", 5)]) rfl zgu.nd (zey T.zfg (za (zap (ixd hr.units) (zb 1) ze) (za (zu zcb (zap (ixd hr.units) (zb 2) ze) ze) zc))) (blkOk_by (N := zh0) (sc := defScope zbr) (by decide +kernel)) (fun _ _ _ _ _ => (zm (i := 5) zgu.nd rfl (Or.inl rfl))) (fun _ _ _ _ _ => zdj) (fun _ _ _ _ _ => (zpj (zc9 (zl zd5 (hr.mono (by decide)) T.zp0 T.zne.kp T.zny (za (zb 0) (za (zk (za (zb 5) (za (zb 4) zc))) zc)))) zab zab)))) zc)) zc)))))
      (zfv 3 (zh (zvz (zb 3))))))
theorem zwx (T : Txt P K mg) (zd5 : FnD P w K mg base 1 T.ze2 T.zgf ["craft", "cell"] zc5) : FnD P w K mg base 2 T.zee T.zgh ["craft", "lows", "highs"] zep :=
  fn_d T.zql zgu zt8 (zwn T zd5) ztw
theorem zuh [Bs] (T : Txt P K mg) (zal : FnD P w K mg base 2 T.zau T.zbd ["self", "standing"] zae) (zf4 : FnD P w K mg base 1 T.zf0 T.zh7 ["size"] ze1) (cdv : Value) (A : Around) (outer : List Env) (s : Shared) (H : Hp) (E : XK) (hr : Room 2 (A.deeper (envOfC "draw_belief" (defScope zba) s.heap.objs.size T.zds cdv))) :
    PSsD (cxOf CX0 P w K mg base zgw "draw_belief" (defScope zba) T.zds cdv A outer s H E).nox (defBody zba) zlf :=
  (zg (zb5 (i := 4) zcz.nd rfl (Or.inr rfl) z0z)
      (zg (zc7 PassesOwn.never rfl (zea (zb 1)) (zm (i := 5) zcz.nd rfl (Or.inl rfl))
      (zg (zb5 (i := 6) zcz.nd rfl (Or.inl rfl) (zrk T.zce T.zf8 zal (hr.mono (by decide)) T.zga (zb 0) (za (zb 5) zc)))
      (zh (zm3 (zu zcb (zit PySem.F.plainAttrs_dict PySem.F.slot_dict_get PySem.F.type_dict_get (zvr hr.units) (zb 4) (za (zb 6) (za ze zc))) ze) (z3w (zb 4) (zb 6) (z4i hr.units))))))
      (zfv 4 (zg (zb5 (i := 7) zcz.nd rfl (Or.inl rfl) (ziv zc))
      (zg (zc7 PassesOwn.never rfl (zey T.zfg (za (zap (ixd hr.units) (zb 2) ze) (za (zu zcb (zap (ixd hr.units) (zb 3) ze) ze) zc))) (zm (i := 8) zcz.nd rfl (Or.inr rfl))
      (zh (zfa (zit PySem.F.plainAttrs_list PySem.F.slot_list_append PySem.F.type_list_append zes (zb 7) (za (zit PySem.F.plainAttrs_str PySem.F.slot_str_join PySem.F.type_str_join zsy zab (za (zb6 (zhc (own := [("x", 9)]) rfl zcz.nd (zey T.zfg (za (zap (ixd hr.units) (zb 2) ze) (za (zu zcb (zap (ixd hr.units) (zb 3) ze) ze) zc))) (blkOk_by (N := zgw) (sc := defScope zba) (by decide +kernel)) (fun _ _ _ _ _ => (zm (i := 9) zcz.nd rfl (Or.inl rfl))) (fun _ _ _ _ _ => zdj) (fun _ _ _ _ _ => (zl zf4 (hr.mono (by decide)) T.zx2 T.ztm.kp T.zu8 (za (zit PySem.F.plainAttrs_dict PySem.F.slot_dict_get PySem.F.type_dict_get (zvr hr.units) (zb 4) (za (zk (za (zb 9) (za (zb 8) zc))) (za ze zc))) zc))))) zc)) zc)))))
      (zfv 7 (zh (zvz (zb 7)))))))))
theorem zua (T : Txt P K mg) (zal : FnD P w K mg base 2 T.zau T.zbd ["self", "standing"] zae) (zf4 : FnD P w K mg base 1 T.zf0 T.zh7 ["size"] ze1) : FnD P w K mg base 3 T.zds T.zfr ["craft", "belief", "lows", "highs"] zdz :=
  fn_d T.zoq zcz zti (zuh T zal zf4) zr9
theorem zaas [Bs] (T : Txt P K mg) (zal : FnD P w K mg base 2 T.zau T.zbd ["self", "standing"] zae) (zfh : FnD P w K mg base 2 T.zch T.zec ["self", "standing"] zcp) (zbf : FnD P w K mg base 1 T.zbg T.zcg ["self", "other"] zar) (zz : FnD P w K mg base 3 T.zaj T.za2 ["self", "craters"] z4) (zgv : FnD P w K mg base 3 T.zdk T.zfs ["draw", "craft"] zdu) (zhy : FnD P w K mg base 8 T.zef T.zgg ["draw"] zeh) (zh3 : FnD P w K mg base 6 T.zed T.zgl ["text"] zel) (z8 : FnD P w K mg base 3 T.zbx T.zco ["draw", "items"] z5) (zj : FnD P w K mg base 2 T.zas T.za4 ["draw", "many"] zi) (zgz : FnD P w K mg base 3 T.zds T.zfr ["craft", "belief", "lows", "highs"] zdz) (zh1 : FnD P w K mg base 2 T.zee T.zgh ["craft", "lows", "highs"] zep) (zei : FnD P w K mg base 2 T.zdh T.zfp ["ground", "lows", "highs"] zcd) (zd5 : FnD P w K mg base 1 T.ze2 T.zgf ["craft", "cell"] zc5) (zcc : FnX P w K mg base 5 T.za6 T.zdi ["text"] zbv) (cdv : Value) (A : Around) (outer : List Env) (s : Shared) (H : Hp) (E : XK) (hr : Room 8 (A.deeper (envOfC "law" (defScope zke) s.heap.objs.size T.z1f cdv))) :
    PSsD (cxOf CX0 P w K mg base ztt "law" (defScope zke) T.z1f cdv A outer s H E).nox (defBody zke) z7a :=
  (zg (zb5 (i := 1) zby.nd rfl (Or.inr rfl) (ziv (za (zb 0) (za ze zc))))
      (zg (zb5 (i := 2) zby.nd rfl (Or.inr rfl) (zl zhy (hr.mono (by decide)) T.zyw T.zqs.kp T.zvs (za (zb 1) zc)))
      (zg (zpp (i := 3) (j := 4) rfl zby.nd rfl rfl (by decide) rfl rfl (za (zl zgv (hr.mono (by decide)) T.zwc T.zo4.kp T.zt9 (za (zb 1) (za (zb 2) zc))) (za (za3 T.zh4 T.zbs (za3 T.zf3 T.zen (zap (ixd hr.units) (za3 T.zce T.zdw (zb 2)) ze))) zc)) (by with_unfolding_all rfl))
      (zg (zpp (i := 5) (j := 6) rfl zby.nd rfl rfl (by decide) rfl rfl (za (zk (za (zkk ze) (za (zkk ze) zc))) (za (zk (za (zu zcb ze (zl zj (hr.mono (by decide)) T.zx T.zv.kp T.zr (za (zb 1) (za ze zc)))) (za ze zc))) zc)) (by with_unfolding_all rfl))
      (zg (zc7 PassesOwn.never rfl (zey T.zfg (za (zap (ixd hr.units) (zb 5) ze) (za (zu zcb (zap (ixd hr.units) (zb 6) ze) ze) zc))) (zm (i := 7) zby.nd rfl (Or.inr rfl))
      (zh (zc7 PassesOwn.never rfl (zey T.zfg (za (zap (ixd hr.units) (zb 5) ze) (za (zu zcb (zap (ixd hr.units) (zb 6) ze) ze) zc))) (zm (i := 8) zby.nd rfl (Or.inr rfl))
      (zg (zsa (i := 9) (own := [("u", 22), ("v", 23), ("size", 24)]) rfl zby.nd rfl rfl (sw_true rfl rfl rfl (by decide +kernel)) (zea (zb 4)) (blkOk_by (N := ztt) (sc := defScope zke) (by decide +kernel)) (fun _ _ _ _ _ => (zej rfl (zs (zm (i := 22) zby.nd rfl (Or.inl rfl)) (zs (zm (i := 23) zby.nd rfl (Or.inl rfl)) (zs (zm (i := 24) zby.nd rfl (Or.inl rfl)) zcv))))) (fun _ _ _ _ _ => (zrs (z6 (zk2 hr.units) (zk (za (zb 22) (za (zb 23) zc))) (zk (za (zb 8) (za (zb 7) zc))) (nomark _)))) (fun _ _ _ _ _ => (zb 24)))
      (zfv 9 (zg (zb5 (i := 10) zby.nd rfl (Or.inl rfl) (zpj (z6 (zni hr.units) (zb 9) (zd1 zc) (nomark _)) (za9 zy8 T.z8p z3d (za (zp (z77 rfl) T.z2f zyb (za (zb 9) zc)) zc)) zab))
      (zg (zb5 (i := 11) zby.nd rfl (Or.inl rfl) (zp (znq rfl) T.zul znt (za (zb6 (zhc (own := [("u", 22), ("v", 23), ("size", 24)]) rfl zby.nd (zea (zb 4)) (blkOk_by (N := ztt) (sc := defScope zke) (by decide +kernel)) (fun _ _ _ _ _ => (zej rfl (zs (zm (i := 22) zby.nd rfl (Or.inl rfl)) (zs (zm (i := 23) zby.nd rfl (Or.inl rfl)) (zs (zm (i := 24) zby.nd rfl (Or.inl rfl)) zcv))))) (fun _ _ _ _ _ => zdj) (fun _ _ _ _ _ => (zkh (zum hr.units) (zp (zvk rfl) T.z2f zyb (za (zp zut T.z1b zuu (za (zu zfc (zb 8) (zb 22)) zc)) (za (zp zut T.z1b zuu (za (zu zfc (zb 7) (zb 23)) zc)) zc))) (zu zcb (za3 T.zce T.zis (zb 2)) (zb 24)) (nomark _))))) zc)))
      (zg (zb5 (i := 12) zby.nd rfl (Or.inl rfl) (zp zhd T.zmq zhb (za (zb6 (zhc (own := [("one", 25)]) rfl zby.nd (zea (zb 3)) (blkOk_by (N := ztt) (sc := defScope zke) (by decide +kernel)) (fun _ _ _ _ _ => (zm (i := 25) zby.nd rfl (Or.inl rfl))) (fun _ _ _ _ _ => (zrs (z6 (zk2 hr.units) (zrk T.zce T.zf8 zal (hr.mono (by decide)) T.zga (zb 2) (za (zb 25) zc)) (zk (za (zb 8) (za (zb 7) zc))) (nomark _)))) (fun _ _ _ _ _ => (zb 25)))) zc)))
      (zg (zpp (i := 13) (j := 14) rfl zby.nd rfl rfl (by decide) rfl rfl (za (zu zfc (zb 8) (zap (ixd hr.units) (zb 5) ze)) (za (zu zfc (zb 7) (zap (ixd hr.units) (zb 5) ze)) zc)) (by with_unfolding_all rfl))
      (zg (zbp (zov (zik (z6 (zni hr.units) (zap ixdS (zap (ixd hr.units) (zl zei (hr.mono (by decide)) T.zlo T.zin.kp T.zkg (za (za3 T.zf3 T.zen (zap (ixd hr.units) (za3 T.zce T.zdw (zb 2)) ze)) (za (zb 5) (za (zb 6) zc)))) (zb 14)) (zb 13)) (zb 10) (nomark _)) (zjk (z6 (zni hr.units) (zl zd5 (hr.mono (by decide)) T.zp0 T.zne.kp T.zny (za (zb 2) (za (zk (za (zb 8) (za (zb 7) zc))) zc))) (zb 11) (nomark _)))))
      (zh (zaf znl))
      z7)
      (zg (zbp (z6 (zni hr.units) (zap ixdS (zap (ixd hr.units) (zl zh1 (hr.mono (by decide)) T.zxj T.zql.kp T.zws (za (zb 2) (za (zb 5) (za (zb 6) zc)))) (zb 14)) (zb 13)) (zpj (zc9 (zb 11)) zab zab) (nomark _))
      (zh (zaf znl))
      z7)
      (zh (zbp (z6 (zni hr.units) (zap ixdS (zap (ixd hr.units) (zl zgz (hr.mono (by decide)) T.zwf T.zoq.kp T.zuf (za (zb 2) (za (zb 3) (za (zb 5) (za (zb 6) zc))))) (zb 14)) (zb 13)) (zpj (z6 (zk2 hr.units) (zb 12) ze (nomark _)) zab (za9 zy8 T.z8p z3d (za (zb 12) zc))) (nomark _))
      (zh (zaf znl))
      z7)))))))))))))
      (zg (zc7 PassesOwn.never rfl (zea (zb 3)) (zm (i := 15) zby.nd rfl (Or.inl rfl))
      (zh (zbp (z6 (zni hr.units) (zl zd5 (hr.mono (by decide)) T.zp0 T.zne.kp T.zny (za (zb 2) (za (zrk T.zce T.zf8 zal (hr.mono (by decide)) T.zga (zb 2) (za (zb 15) zc)) zc))) (zrk T.zce T.zqy zfh (hr.mono (by decide)) T.zrf (zb 2) (za (zb 15) zc)) (nomark _))
      (zh (zaf znl))
      z7)))
      (zg (zpp (i := 16) (j := 17) rfl zby.nd rfl rfl (by decide) rfl rfl (za (zu zcb ze (zl zj (hr.mono (by decide)) T.zx T.zv.kp T.zr (za (zb 1) (za ze zc)))) (za (zu zcb ze (zl zj (hr.mono (by decide)) T.zx T.zv.kp T.zr (za (zb 1) (za ze zc)))) zc)) (by with_unfolding_all rfl))
      (zg (zb5 (i := 18) zby.nd rfl (Or.inl rfl) (ziv zc))
      (zg (zc7 PassesOwn.never rfl (zhk T.zfg (za (zb 17) zc)) (zm (i := 14) zby.nd rfl (Or.inl rfl))
      (zh (zfa (zit PySem.F.plainAttrs_list PySem.F.slot_list_append PySem.F.type_list_append zes (zb 18) (za (zit PySem.F.plainAttrs_str PySem.F.slot_str_join PySem.F.type_str_join zsy zab (za (zb6 (zhc (own := [("column", 26)]) rfl zby.nd (zhk T.zfg (za (zb 16) zc)) (blkOk_by (N := ztt) (sc := defScope zke) (by decide +kernel)) (fun _ _ _ _ _ => (zm (i := 26) zby.nd rfl (Or.inl rfl))) (fun _ _ _ _ _ => zdj) (fun _ _ _ _ _ => (zl z8 (hr.mono (by decide)) T.zek T.zdv.kp T.zdl (za (zb 1) (za (zd1 (za zab (za zab (za zab (za zab (za zab zc)))))) zc)))))) zc)) zc)))))
      (zfv 18 (zg (zb5 (i := 19) zby.nd rfl (Or.inl rfl) (zd1 zc))
      (zg (zc7 PassesOwn.never rfl (zwi T.zjh (za (zb 18) zc)) (zej rfl (zs (zm (i := 7) zby.nd rfl (Or.inr rfl)) (zs (zm (i := 14) zby.nd rfl (Or.inl rfl)) zcv)))
      (zh (zb5 (i := 19) zby.nd rfl (Or.inl rfl) (zu zcb (zb 19) (zb6 (zhc (own := [("x", 8), ("sign", 10)]) rfl zby.nd (zyq T.zjh (za (zb 14) zc)) (blkOk_by (N := ztt) (sc := defScope zke) (by decide +kernel)) (fun _ _ _ _ _ => (zej rfl (zs (zm (i := 8) zby.nd rfl (Or.inl rfl)) (zs (zm (i := 10) zby.nd rfl (Or.inl rfl)) zcv)))) (fun _ _ _ _ _ => (zrs (z6 (zni hr.units) (zb 10) zab (nomark _)))) (fun _ _ _ _ _ => (zk (za (zb 8) (za (zb 7) (za (za9 z4b T.zun zno (za (zb 10) zc)) zc)))))))))))
      (zg (zb5 (i := 20) zby.nd rfl (Or.inl rfl) (zxh zcc (hr.mono (by decide)) T.zot T.zld.kp T.zns z04 (za (zit PySem.F.plainAttrs_str PySem.F.slot_str_join PySem.F.type_str_join zsy zab (za (zb 18) zc)) zc)))
      (zg (zbp (zov (zik (z6 (z90 (P := zrh) (hr.mono (by decide)) ⟨⟨_, _, _, zar, zbf, fun d e b G Q p q => z1i p q, T.zmj, T.zl4⟩, fun d e b p => zz6 p⟩ T.z2o) (zb 20) (zb6 (zfx T.zo0 zz (hr.mono (by decide)) T.zmr T.ze6 (za (zb 19) zc))) (nomark _)) (zjk (z6 (zni hr.units) (zb6 (za9 z7p T.z83 z79 (za (zl zei (hr.mono (by decide)) T.zlo T.zin.kp T.zkg (za (zb 20) (za (zk (za ze (za ze zc))) (za (zk (za (zu zfc (zb 16) ze) (za (zu zfc (zb 17) ze) zc))) zc)))) zc))) (zb 18) (nomark _)))))
      (zh (zaf znl))
      z7)
      (zg (zb5 (i := 21) zby.nd rfl (Or.inl rfl) (zd1 (za (zk (za zab (za (zk (za ze (za ze zc))) zc))) (za (zk (za zab (za (zk (za ze (za ze zc))) zc))) (za (zk (za zab (za (zk (za ze (za ze zc))) zc))) (za (zk (za zab (za (zk (za ze (za ze zc))) zc))) (za (zk (za zab (za (zk (za ze (za ze zc))) zc))) (za (zk (za zab (za (zk (za ze (za ze zc))) zc))) (za (zk (za (zu z8l zab ze) (za (zk (za ze (za ze zc))) zc))) zc)))))))))
      (zh (zaf (zlp (zp (znq rfl) T.zul znt (za (zb6 (zhc (own := [("text", 27), ("due", 19)]) rfl zby.nd (zea (zb 21)) (blkOk_by (N := ztt) (sc := defScope zke) (by decide +kernel)) (fun _ _ _ _ _ => (zej rfl (zs (zm (i := 27) zby.nd rfl (Or.inl rfl)) (zs (zm (i := 19) zby.nd rfl (Or.inl rfl)) zcv)))) (fun _ _ _ _ _ => zdj) (fun _ _ _ _ _ => (zkh (zk2 hr.units) (z64 (zl zh3 (hr.mono (by decide)) T.zxx T.zqq.kp T.zvy (za (zb 27) zc))) (zb 19) (nomark _))))) zc)) (zp1 (zkh (zk2 hr.units) (zl zei (hr.mono (by decide)) T.zlo T.zin.kp T.zkg (za (zb6 (zfx T.zo0 zz (hr.mono (by decide)) T.zmr T.ze6 (za (zd1 (za (zk (za ze (za ze (za ze zc)))) (za (zk (za ze (za ze (za ze zc)))) zc))) zc))) (za (zk (za ze (za ze zc))) (za (zk (za ze (za ze zc))) zc)))) (zd1 (za zab zc)) (nomark _)))))))))))))))))))))
theorem z9q (T : Txt P K mg) (zal : FnD P w K mg base 2 T.zau T.zbd ["self", "standing"] zae) (zfh : FnD P w K mg base 2 T.zch T.zec ["self", "standing"] zcp) (zbf : FnD P w K mg base 1 T.zbg T.zcg ["self", "other"] zar) (zz : FnD P w K mg base 3 T.zaj T.za2 ["self", "craters"] z4) (zgv : FnD P w K mg base 3 T.zdk T.zfs ["draw", "craft"] zdu) (zhy : FnD P w K mg base 8 T.zef T.zgg ["draw"] zeh) (zh3 : FnD P w K mg base 6 T.zed T.zgl ["text"] zel) (z8 : FnD P w K mg base 3 T.zbx T.zco ["draw", "items"] z5) (zj : FnD P w K mg base 2 T.zas T.za4 ["draw", "many"] zi) (zgz : FnD P w K mg base 3 T.zds T.zfr ["craft", "belief", "lows", "highs"] zdz) (zh1 : FnD P w K mg base 2 T.zee T.zgh ["craft", "lows", "highs"] zep) (zei : FnD P w K mg base 2 T.zdh T.zfp ["ground", "lows", "highs"] zcd) (zd5 : FnD P w K mg base 1 T.ze2 T.zgf ["craft", "cell"] zc5) (zcc : FnX P w K mg base 5 T.za6 T.zdi ["text"] zbv) : FnD P w K mg base 9 T.z1f T.z4w ["script"] sp_law :=
  fn_d T.zabj zby z8c (zaas T zal zfh zbf zz zgv zhy zh3 z8 zj zgz zh1 zei zd5 zcc) z8v
end
section
variable {P : Program} {w : World} {K : PySem.W.Frag} {mg : Str → Option Value} {base : Heap}
theorem zaa4 (T : Txt P K mg) : FnD P w K mg base 9 T.z1f T.z4w ["script"] sp_law := by
  have zt : FnD P w K mg base 1 T.za7 T.zbe ["thing", "low", "high"] zy := zzo T
  have zko : FnD P w K mg base 2 T.zgi T.ziz ["thing", "low", "high"] zf7 := zzy T zt
  have zz : FnD P w K mg base 3 T.zaj T.za2 ["self", "craters"] z4 := zox T zko
  have zc3 : FnD P w K mg base 2 T.zbq T.zc1 ["self", "width", "height", "error", "false", "lost"] zaw := zo3 T zt
  have zb7 : FnD P w K mg base 2 T.zdg T.ze0 ["thing"] zb8 := zzf T zt
  have zi5 : FnD P w K mg base 3 T.zff T.zhj ["kind", "aim"] zfm := zyf T zb7 zt
  have zq : FnD P w K mg base 4 T.zaa T.zam ["self", "kind", "fuel", "aim", "slips"] zw := zq2 T zb7 zt zi5
  have zxv : FnD P w K mg base 6 T.zqg T.zux ["fuel", "aim"] zoe := z67 T zq
  have zfz : FnD P w K mg base 2 T.zcw T.ze3 ["self", "ground", "camera", "turns", "area"] zc4 := zs6 T zt
  have zbf : FnD P w K mg base 1 T.zbg T.zcg ["self", "other"] zar := zrd T
  have zeb : FnD P w K mg base 5 T.zbu T.zc0 ["skies"] zbw := zoz T zbf
  have zeu : FnD P w K mg base 6 T.zb3 T.zdf ["self", "skies", "foot", "room", "deeds"] zca := zpv T zeb zb7 zt
  have zg1 : FnD P w K mg base 1 T.zdr T.zfu ["script", "index"] zdx := zud T
  have zj : FnD P w K mg base 2 T.zas T.za4 ["draw", "many"] zi := zx5 T zg1
  have zgn : FnD P w K mg base 5 T.zdq T.zfn ["draw"] zdy := zub T zz zj
  have z8 : FnD P w K mg base 3 T.zbx T.zco ["draw", "items"] z5 := zxr T zj
  have zxa : FnD P w K mg base 6 T.zqn T.zvc ["fuel", "aim"] zn6 := z8j T zq
  have zyo : FnD P w K mg base 6 T.zqv T.zvi ["fuel", "aim", "slips"] zom := z6x T zq
  have zxu : FnD P w K mg base 6 T.zqi T.zu9 ["fuel", "slips"] zoc := z6z T zq
  have zw9 : FnD P w K mg base 6 T.zqr T.zu1 ["fuel"] zoh := z7c T zq
  have zh2 : FnD P w K mg base 7 T.zeg T.zgj ["draw", "cameras"] zem := zv5 T z8 zj zw9 zxu zxa zyo zxv
  have zgy : FnD P w K mg base 4 T.zdm T.zfq ["draw", "ground"] zd0 := zt5 T zc3 z8 zj
  have zhy : FnD P w K mg base 8 T.zef T.zgg ["draw"] zeh := zwq T zeu zfz zgy zh2 zgn z8 zj
  have zcc : FnX P w K mg base 5 T.za6 T.zdi ["text"] zbv := zuj T zz
  have zd8 : FnD P w K mg base 1 T.zci T.zd2 ["self"] zb4 := zq6 T
  have zgv : FnD P w K mg base 3 T.zdk T.zfs ["draw", "craft"] zdu := zt2 T zd8 zj
  have zd5 : FnD P w K mg base 1 T.ze2 T.zgf ["craft", "cell"] zc5 := zza T
  have zhx : FnD P w K mg base 1 T.zhv T.zj7 ["x", "y", "turn"] zf2 := z3g T
  have zfh : FnD P w K mg base 2 T.zch T.zec ["self", "standing"] zcp := zra T zhx
  have zf4 : FnD P w K mg base 1 T.zf0 T.zh7 ["size"] ze1 := z1k T
  have zei : FnD P w K mg base 2 T.zdh T.zfp ["ground", "lows", "highs"] zcd := zug T zf4
  have zal : FnD P w K mg base 2 T.zau T.zbd ["self", "standing"] zae := zn3 T zhx
  have zh3 : FnD P w K mg base 6 T.zed T.zgl ["text"] zel := zw8 T zcc
  have zh1 : FnD P w K mg base 2 T.zee T.zgh ["craft", "lows", "highs"] zep := zwx T zd5
  have zgz : FnD P w K mg base 3 T.zds T.zfr ["craft", "belief", "lows", "highs"] zdz := zua T zal zf4
  exact z9q T zal zfh zbf zz zgv zhy zh3 z8 zj zgz zh1 zei zd5 zcc
end
omit [CA] in
theorem z82 {l : PySem.W.OpenLaw} {w : World} {K : PySem.W.Frag} {h : Heap} {mg : Str → Option Value} {fa f0 f1 f2 f3 f4 f5 f6 f7 f8 f9 f10 f11 f12 f13 f14 f15 f16 f17 f18 f19 f20 f21 f22 f23 f24 f25 f26 f27 f28 f29 f30 f31 f32 f33 f34 f35 c_Ground c_Camera c_Sky c_BadText c_Deed c_Craft : Addr} (X : K.In h) (G : h.Ns mainGlobals mg) (hfa : mg "law" = some (.ref fa))
    {fx_BadText cda_BadText cc_BadText : Addr} {ox_BadText kx_BadText dx_BadText px_BadText ctx_BadText ccl_BadText cl_BadText : Value} {odx_BadText anx_BadText cdd_BadText cld_BadText : Option Addr} {slx_BadText ccs_BadText csl_BadText : Array (Option Value)} {vs_BadText : Array Value} {file_BadText : Str} {tf_BadText : Tok}
    {ga_KINDS : Addr} {god_KINDS : Option Addr} {gits_KINDS : Array Value} {gn_KINDS : Nat} {gsl_KINDS : Array (Option Value)}
    {od0 od1 od2 od3 od4 od5 od6 od7 od8 od9 od10 od11 od12 od13 od14 od15 od16 od17 od18 od19 od20 od21 od22 od23 od24 od25 od26 od27 od28 od29 od30 od31 od32 od33 od34 od35 an0 an1 an2 an3 an4 an5 an6 an7 an8 an9 an10 an11 an12 an13 an14 an15 an16 an17 an18 an19 an20 an21 an22 an23 an24 an25 an26 an27 an28 an29 an30 an31 an32 an33 an34 an35 : Option Addr} {sl0 sl1 sl2 sl3 sl4 sl5 sl6 sl7 sl8 sl9 sl10 sl11 sl12 sl13 sl14 sl15 sl16 sl17 sl18 sl19 sl20 sl21 sl22 sl23 sl24 sl25 sl26 sl27 sl28 sl29 sl30 sl31 sl32 sl33 sl34 sl35 : Array (Option Value)} {oc0 oc1 oc2 oc3 oc4 oc5 oc6 oc7 oc8 oc9 oc10 oc11 oc12 oc13 oc14 oc15 oc16 oc17 oc18 oc19 oc20 oc21 oc22 oc23 oc24 oc25 oc26 oc27 oc28 oc29 oc30 oc31 oc32 oc33 oc34 oc35 kV0 kV1 kV2 kV3 kV4 kV5 kV6 kV7 kV8 kV9 kV10 kV11 kV12 kV13 kV14 kV15 kV16 kV17 kV18 kV19 kV20 kV21 kV22 kV23 kV24 kV25 kV26 kV27 kV28 kV29 kV30 kV31 kV32 kV33 kV34 kV35 dc0 dc1 dc2 dc3 dc4 dc5 dc6 dc7 dc8 dc9 dc10 dc11 dc12 dc13 dc14 dc15 dc16 dc17 dc18 dc19 dc20 dc21 dc22 dc23 dc24 dc25 dc26 dc27 dc28 dc29 dc30 dc31 dc32 dc33 dc34 dc35 pm0 pm1 pm2 pm3 pm4 pm5 pm6 pm7 pm8 pm9 pm10 pm11 pm12 pm13 pm14 pm15 pm16 pm17 pm18 pm19 pm20 pm21 pm22 pm23 pm24 pm25 pm26 pm27 pm28 pm29 pm30 pm31 pm32 pm33 pm34 pm35 cd0 cd1 cd2 cd3 cd4 cd5 cd6 cd7 cd8 cd9 cd10 cd11 cd12 cd13 cd14 cd15 cd16 cd17 cd18 cd19 cd20 cd21 cd22 cd23 cd24 cd25 cd26 cd27 cd28 cd29 cd30 cd31 cd32 cd33 cd34 cd35 ct0 ct1 ct2 ct3 ct4 ct5 ct6 ct7 ct8 ct9 ct10 ct11 ct12 ct13 ct14 ct15 ct16 ct17 ct18 ct19 ct20 ct21 ct22 ct23 ct24 ct25 ct26 ct27 ct28 ct29 ct30 ct31 ct32 ct33 ct34 ct35 : Value}
    (e_Ground : PySem.W.nsIn K mainGlobals "Ground" = some (some (.ref c_Ground)))
    (e_Camera : PySem.W.nsIn K mainGlobals "Camera" = some (some (.ref c_Camera)))
    (e_Sky : PySem.W.nsIn K mainGlobals "Sky" = some (some (.ref c_Sky)))
    (e_BadText : PySem.W.nsIn K mainGlobals "BadText" = some (some (.ref c_BadText)))
    (e_Deed : PySem.W.nsIn K mainGlobals "Deed" = some (some (.ref c_Deed)))
    (e_Craft : PySem.W.nsIn K mainGlobals "Craft" = some (some (.ref c_Craft)))
    (a0 : PySem.W.nsIn K mainGlobals "is_whole" = some (some (.ref f0)))
    (l0 : K.lookup f0 = some ⟨oc0, od0, .func (PySem.W.fnOf "is_whole" "is_whole" (defArgs zdd) (defBody zdd) (defScope zdd) .none kV0 dc0 pm0 an0 cd0 ct0), sl0⟩)
    (c0 : PySem.W.codeIn K cd0 "is_whole" = true)
    (k0 : PySem.W.keepIn K (.ref f0) = true)
    (a1 : PySem.W.nsIn K mainGlobals "is_point" = some (some (.ref f1)))
    (l1 : K.lookup f1 = some ⟨oc1, od1, .func (PySem.W.fnOf "is_point" "is_point" (defArgs zde) (defBody zde) (defScope zde) .none kV1 dc1 pm1 an1 cd1 ct1), sl1⟩)
    (c1 : PySem.W.codeIn K cd1 "is_point" = true)
    (k1 : PySem.W.keepIn K (.ref f1) = true)
    (a2 : PySem.W.findIn K (.ref c_Ground) "__init__" = some (some (.ref f2)))
    (i2 : PySem.W.isFn K (.ref f2) = true)
    (l2 : K.lookup f2 = some ⟨oc2, od2, .func (PySem.W.fnOf "__init__" "Ground.__init__" (defArgs zai) (defBody zai) (defScope zai) .none kV2 dc2 pm2 an2 cd2 ct2), sl2⟩)
    (c2 : PySem.W.codeIn K cd2 "Ground.__init__" = true)
    (k2 : PySem.W.keepIn K (.ref f2) = true)
    (a3 : PySem.W.findIn K (.ref c_Camera) "__init__" = some (some (.ref f3)))
    (i3 : PySem.W.isFn K (.ref f3) = true)
    (l3 : K.lookup f3 = some ⟨oc3, od3, .func (PySem.W.fnOf "__init__" "Camera.__init__" (defArgs zah) (defBody zah) (defScope zah) .none kV3 dc3 pm3 an3 cd3 ct3), sl3⟩)
    (c3 : PySem.W.codeIn K cd3 "Camera.__init__" = true)
    (k3 : PySem.W.keepIn K (.ref f3) = true)
    (a4 : PySem.W.nsIn K mainGlobals "is_shift" = some (some (.ref f4)))
    (l4 : K.lookup f4 = some ⟨oc4, od4, .func (PySem.W.fnOf "is_shift" "is_shift" (defArgs zc2) (defBody zc2) (defScope zc2) .none kV4 dc4 pm4 an4 cd4 ct4), sl4⟩)
    (c4 : PySem.W.codeIn K cd4 "is_shift" = true)
    (k4 : PySem.W.keepIn K (.ref f4) = true)
    (a5 : PySem.W.nsIn K mainGlobals "wrong_aim" = some (some (.ref f5)))
    (l5 : K.lookup f5 = some ⟨oc5, od5, .func (PySem.W.fnOf "wrong_aim" "wrong_aim" (defArgs zct) (defBody zct) (defScope zct) .none kV5 dc5 pm5 an5 cd5 ct5), sl5⟩)
    (c5 : PySem.W.codeIn K cd5 "wrong_aim" = true)
    (k5 : PySem.W.keepIn K (.ref f5) = true)
    (a6 : PySem.W.findIn K (.ref c_Deed) "__init__" = some (some (.ref f6)))
    (i6 : PySem.W.isFn K (.ref f6) = true)
    (l6 : K.lookup f6 = some ⟨oc6, od6, .func (PySem.W.fnOf "__init__" "Deed.__init__" (defArgs zat) (defBody zat) (defScope zat) .none kV6 dc6 pm6 an6 cd6 ct6), sl6⟩)
    (c6 : PySem.W.codeIn K cd6 "Deed.__init__" = true)
    (k6 : PySem.W.keepIn K (.ref f6) = true)
    (a7 : PySem.W.nsIn K mainGlobals "turn" = some (some (.ref f7)))
    (l7 : K.lookup f7 = some ⟨oc7, od7, .func (PySem.W.fnOf "turn" "turn" (defArgs zmm) (defBody zmm) (defScope zmm) .none kV7 dc7 pm7 an7 cd7 ct7), sl7⟩)
    (c7 : PySem.W.codeIn K cd7 "turn" = true)
    (k7 : PySem.W.keepIn K (.ref f7) = true)
    (a8 : PySem.W.findIn K (.ref c_Sky) "__init__" = some (some (.ref f8)))
    (i8 : PySem.W.isFn K (.ref f8) = true)
    (l8 : K.lookup f8 = some ⟨oc8, od8, .func (PySem.W.fnOf "__init__" "Sky.__init__" (defArgs zao) (defBody zao) (defScope zao) .none kV8 dc8 pm8 an8 cd8 ct8), sl8⟩)
    (c8 : PySem.W.codeIn K cd8 "Sky.__init__" = true)
    (k8 : PySem.W.keepIn K (.ref f8) = true)
    (a9 : PySem.W.findIn K (.ref c_Ground) "__eq__" = some (some (.ref f9)))
    (i9 : PySem.W.isFn K (.ref f9) = true)
    (l9 : K.lookup f9 = some ⟨oc9, od9, .func (PySem.W.fnOf "__eq__" "Ground.__eq__" (defArgs zay) (defBody zay) (defScope zay) .none kV9 dc9 pm9 an9 cd9 ct9), sl9⟩)
    (c9 : PySem.W.codeIn K cd9 "Ground.__eq__" = true)
    (k9 : PySem.W.keepIn K (.ref f9) = true)
    (a10 : PySem.W.nsIn K mainGlobals "have_one_ground" = some (some (.ref f10)))
    (l10 : K.lookup f10 = some ⟨oc10, od10, .func (PySem.W.fnOf "have_one_ground" "have_one_ground" (defArgs zac) (defBody zac) (defScope zac) .none kV10 dc10 pm10 an10 cd10 ct10), sl10⟩)
    (c10 : PySem.W.codeIn K cd10 "have_one_ground" = true)
    (k10 : PySem.W.keepIn K (.ref f10) = true)
    (a11 : PySem.W.findIn K (.ref c_Craft) "__init__" = some (some (.ref f11)))
    (i11 : PySem.W.isFn K (.ref f11) = true)
    (l11 : K.lookup f11 = some ⟨oc11, od11, .func (PySem.W.fnOf "__init__" "Craft.__init__" (defArgs z9) (defBody z9) (defScope z9) .none kV11 dc11 pm11 an11 cd11 ct11), sl11⟩)
    (c11 : PySem.W.codeIn K cd11 "Craft.__init__" = true)
    (k11 : PySem.W.keepIn K (.ref f11) = true)
    (a12 : PySem.W.nsIn K mainGlobals "_law_number" = some (some (.ref f12)))
    (l12 : K.lookup f12 = some ⟨oc12, od12, .func (PySem.W.fnOf "_law_number" "_law_number" (defArgs zbl) (defBody zbl) (defScope zbl) .none kV12 dc12 pm12 an12 cd12 ct12), sl12⟩)
    (c12 : PySem.W.codeIn K cd12 "_law_number" = true)
    (k12 : PySem.W.keepIn K (.ref f12) = true)
    (a13 : PySem.W.nsIn K mainGlobals "_law_take" = some (some (.ref f13)))
    (l13 : K.lookup f13 = some ⟨oc13, od13, .func (PySem.W.fnOf "_law_take" "_law_take" (defArgs zcs) (defBody zcs) (defScope zcs) .none kV13 dc13 pm13 an13 cd13 ct13), sl13⟩)
    (c13 : PySem.W.codeIn K cd13 "_law_take" = true)
    (k13 : PySem.W.keepIn K (.ref f13) = true)
    (a14 : PySem.W.nsIn K mainGlobals "_law_ground" = some (some (.ref f14)))
    (l14 : K.lookup f14 = some ⟨oc14, od14, .func (PySem.W.fnOf "_law_ground" "_law_ground" (defArgs zbk) (defBody zbk) (defScope zbk) .none kV14 dc14 pm14 an14 cd14 ct14), sl14⟩)
    (c14 : PySem.W.codeIn K cd14 "_law_ground" = true)
    (k14 : PySem.W.keepIn K (.ref f14) = true)
    (a15 : PySem.W.nsIn K mainGlobals "_law_pick" = some (some (.ref f15)))
    (l15 : K.lookup f15 = some ⟨oc15, od15, .func (PySem.W.fnOf "_law_pick" "_law_pick" (defArgs zcr) (defBody zcr) (defScope zcr) .none kV15 dc15 pm15 an15 cd15 ct15), sl15⟩)
    (c15 : PySem.W.codeIn K cd15 "_law_pick" = true)
    (k15 : PySem.W.keepIn K (.ref f15) = true)
    (a16 : PySem.W.nsIn K mainGlobals "look" = some (some (.ref f16)))
    (l16 : K.lookup f16 = some ⟨oc16, od16, .func (PySem.W.fnOf "look" "look" (defArgs zmo) (defBody zmo) (defScope zmo) .none kV16 dc16 pm16 an16 cd16 ct16), sl16⟩)
    (c16 : PySem.W.codeIn K cd16 "look" = true)
    (k16 : PySem.W.keepIn K (.ref f16) = true)
    (a17 : PySem.W.nsIn K mainGlobals "step" = some (some (.ref f17)))
    (l17 : K.lookup f17 = some ⟨oc17, od17, .func (PySem.W.fnOf "step" "step" (defArgs zmi) (defBody zmi) (defScope zmi) .none kV17 dc17 pm17 an17 cd17 ct17), sl17⟩)
    (c17 : PySem.W.codeIn K cd17 "step" = true)
    (k17 : PySem.W.keepIn K (.ref f17) = true)
    (a18 : PySem.W.nsIn K mainGlobals "land" = some (some (.ref f18)))
    (l18 : K.lookup f18 = some ⟨oc18, od18, .func (PySem.W.fnOf "land" "land" (defArgs zl2) (defBody zl2) (defScope zl2) .none kV18 dc18 pm18 an18 cd18 ct18), sl18⟩)
    (c18 : PySem.W.codeIn K cd18 "land" = true)
    (k18 : PySem.W.keepIn K (.ref f18) = true)
    (a19 : PySem.W.nsIn K mainGlobals "away" = some (some (.ref f19)))
    (l19 : K.lookup f19 = some ⟨oc19, od19, .func (PySem.W.fnOf "away" "away" (defArgs zl6) (defBody zl6) (defScope zl6) .none kV19 dc19 pm19 an19 cd19 ct19), sl19⟩)
    (c19 : PySem.W.codeIn K cd19 "away" = true)
    (k19 : PySem.W.keepIn K (.ref f19) = true)
    (a20 : PySem.W.nsIn K mainGlobals "_law_deeds" = some (some (.ref f20)))
    (l20 : K.lookup f20 = some ⟨oc20, od20, .func (PySem.W.fnOf "_law_deeds" "_law_deeds" (defArgs zbo) (defBody zbo) (defScope zbo) .none kV20 dc20 pm20 an20 cd20 ct20), sl20⟩)
    (c20 : PySem.W.codeIn K cd20 "_law_deeds" = true)
    (k20 : PySem.W.keepIn K (.ref f20) = true)
    (a21 : PySem.W.nsIn K mainGlobals "_law_camera" = some (some (.ref f21)))
    (l21 : K.lookup f21 = some ⟨oc21, od21, .func (PySem.W.fnOf "_law_camera" "_law_camera" (defArgs zbj) (defBody zbj) (defScope zbj) .none kV21 dc21 pm21 an21 cd21 ct21), sl21⟩)
    (c21 : PySem.W.codeIn K cd21 "_law_camera" = true)
    (k21 : PySem.W.keepIn K (.ref f21) = true)
    (a22 : PySem.W.nsIn K mainGlobals "_law_craft" = some (some (.ref f22)))
    (l22 : K.lookup f22 = some ⟨oc22, od22, .func (PySem.W.fnOf "_law_craft" "_law_craft" (defArgs zbt) (defBody zbt) (defScope zbt) .none kV22 dc22 pm22 an22 cd22 ct22), sl22⟩)
    (c22 : PySem.W.codeIn K cd22 "_law_craft" = true)
    (k22 : PySem.W.keepIn K (.ref f22) = true)
    (a23 : PySem.W.nsIn K mainGlobals "read_ground" = some (some (.ref f23)))
    (l23 : K.lookup f23 = some ⟨oc23, od23, .func (PySem.W.fnOf "read_ground" "read_ground" (defArgs zaq) (defBody zaq) (defScope zaq) .none kV23 dc23 pm23 an23 cd23 ct23), sl23⟩)
    (c23 : PySem.W.codeIn K cd23 "read_ground" = true)
    (k23 : PySem.W.keepIn K (.ref f23) = true)
    (a24 : PySem.W.findIn K (.ref c_Sky) "standings" = some (some (.ref f24)))
    (i24 : PySem.W.isFn K (.ref f24) = true)
    (l24 : K.lookup f24 = some ⟨oc24, od24, .func (PySem.W.fnOf "standings" "Sky.standings" (defArgs za0) (defBody za0) (defScope za0) .none kV24 dc24 pm24 an24 cd24 ct24), sl24⟩)
    (c24 : PySem.W.codeIn K cd24 "Sky.standings" = true)
    (k24 : PySem.W.keepIn K (.ref f24) = true)
    (a25 : PySem.W.nsIn K mainGlobals "_law_belief" = some (some (.ref f25)))
    (l25 : K.lookup f25 = some ⟨oc25, od25, .func (PySem.W.fnOf "_law_belief" "_law_belief" (defArgs zbb) (defBody zbb) (defScope zbb) .none kV25 dc25 pm25 an25 cd25 ct25), sl25⟩)
    (c25 : PySem.W.codeIn K cd25 "_law_belief" = true)
    (k25 : PySem.W.keepIn K (.ref f25) = true)
    (a26 : PySem.W.nsIn K mainGlobals "is_clear" = some (some (.ref f26)))
    (l26 : K.lookup f26 = some ⟨oc26, od26, .func (PySem.W.fnOf "is_clear" "is_clear" (defArgs zdc) (defBody zdc) (defScope zdc) .none kV26 dc26 pm26 an26 cd26 ct26), sl26⟩)
    (c26 : PySem.W.codeIn K cd26 "is_clear" = true)
    (k26 : PySem.W.keepIn K (.ref f26) = true)
    (a27 : PySem.W.nsIn K mainGlobals "turned" = some (some (.ref f27)))
    (l27 : K.lookup f27 = some ⟨oc27, od27, .func (PySem.W.fnOf "turned" "turned" (defArgs zf5) (defBody zf5) (defScope zf5) .none kV27 dc27 pm27 an27 cd27 ct27), sl27⟩)
    (c27 : PySem.W.codeIn K cd27 "turned" = true)
    (k27 : PySem.W.keepIn K (.ref f27) = true)
    (a28 : PySem.W.findIn K (.ref c_Craft) "is_safe" = some (some (.ref f28)))
    (i28 : PySem.W.isFn K (.ref f28) = true)
    (l28 : K.lookup f28 = some ⟨oc28, od28, .func (PySem.W.fnOf "is_safe" "Craft.is_safe" (defArgs zaz) (defBody zaz) (defScope zaz) .none kV28 dc28 pm28 an28 cd28 ct28), sl28⟩)
    (c28 : PySem.W.codeIn K cd28 "Craft.is_safe" = true)
    (k28 : PySem.W.keepIn K (.ref f28) = true)
    (a29 : PySem.W.nsIn K mainGlobals "sign_of" = some (some (.ref f29)))
    (l29 : K.lookup f29 = some ⟨oc29, od29, .func (PySem.W.fnOf "sign_of" "sign_of" (defArgs zet) (defBody zet) (defScope zet) .none kV29 dc29 pm29 an29 cd29 ct29), sl29⟩)
    (c29 : PySem.W.codeIn K cd29 "sign_of" = true)
    (k29 : PySem.W.keepIn K (.ref f29) = true)
    (a30 : PySem.W.nsIn K mainGlobals "draw_ground" = some (some (.ref f30)))
    (l30 : K.lookup f30 = some ⟨oc30, od30, .func (PySem.W.fnOf "draw_ground" "draw_ground" (defArgs zbc) (defBody zbc) (defScope zbc) .none kV30 dc30 pm30 an30 cd30 ct30), sl30⟩)
    (c30 : PySem.W.codeIn K cd30 "draw_ground" = true)
    (k30 : PySem.W.keepIn K (.ref f30) = true)
    (a31 : PySem.W.findIn K (.ref c_Craft) "cell_below" = some (some (.ref f31)))
    (i31 : PySem.W.isFn K (.ref f31) = true)
    (l31 : K.lookup f31 = some ⟨oc31, od31, .func (PySem.W.fnOf "cell_below" "Craft.cell_below" (defArgs zad) (defBody zad) (defScope zad) .none kV31 dc31 pm31 an31 cd31 ct31), sl31⟩)
    (c31 : PySem.W.codeIn K cd31 "Craft.cell_below" = true)
    (k31 : PySem.W.keepIn K (.ref f31) = true)
    (a32 : PySem.W.nsIn K mainGlobals "_law_fault" = some (some (.ref f32)))
    (l32 : K.lookup f32 = some ⟨oc32, od32, .func (PySem.W.fnOf "_law_fault" "_law_fault" (defArgs zb2) (defBody zb2) (defScope zb2) .none kV32 dc32 pm32 an32 cd32 ct32), sl32⟩)
    (c32 : PySem.W.codeIn K cd32 "_law_fault" = true)
    (k32 : PySem.W.keepIn K (.ref f32) = true)
    (a33 : PySem.W.nsIn K mainGlobals "draw_clear" = some (some (.ref f33)))
    (l33 : K.lookup f33 = some ⟨oc33, od33, .func (PySem.W.fnOf "draw_clear" "draw_clear" (defArgs zbr) (defBody zbr) (defScope zbr) .none kV33 dc33 pm33 an33 cd33 ct33), sl33⟩)
    (c33 : PySem.W.codeIn K cd33 "draw_clear" = true)
    (k33 : PySem.W.keepIn K (.ref f33) = true)
    (a34 : PySem.W.nsIn K mainGlobals "draw_belief" = some (some (.ref f34)))
    (l34 : K.lookup f34 = some ⟨oc34, od34, .func (PySem.W.fnOf "draw_belief" "draw_belief" (defArgs zba) (defBody zba) (defScope zba) .none kV34 dc34 pm34 an34 cd34 ct34), sl34⟩)
    (c34 : PySem.W.codeIn K cd34 "draw_belief" = true)
    (k34 : PySem.W.keepIn K (.ref f34) = true)
    (a35 : PySem.W.nsIn K mainGlobals "law" = some (some (.ref f35)))
    (l35 : K.lookup f35 = some ⟨oc35, od35, .func (PySem.W.fnOf "law" "law" (defArgs zke) (defBody zke) (defScope zke) .none kV35 dc35 pm35 an35 cd35 ct35), sl35⟩)
    (c35 : PySem.W.codeIn K cd35 "law" = true)
    (k35 : PySem.W.keepIn K (.ref f35) = true)
    (pg_Ground : PySem.W.plainGet K c_Ground Str.empty = true)
    (hd_Ground : PySem.W.hasDictIn K c_Ground = true)
    (po_Ground : PySem.W.plainOver K c_Ground = true)
    (sa_Ground : PySem.W.findIn K (.ref c_Ground) "__setattr__" = some (some (.builtin "object.__setattr__")))
    (ow_Ground : PySem.W.findIn K (.ref c_Ground) "__class__" = some (some (.builtin "object.__class__")))
    (ob_Ground : PySem.W.mroIn K c_Ground (.type "object") = some true)
    (mks_Ground : PySem.W.makesIn K c_Ground = true)
    (kp_Ground : PySem.W.keepIn K (.ref c_Ground) = true)
    (pg_Camera : PySem.W.plainGet K c_Camera Str.empty = true)
    (hd_Camera : PySem.W.hasDictIn K c_Camera = true)
    (po_Camera : PySem.W.plainOver K c_Camera = true)
    (sa_Camera : PySem.W.findIn K (.ref c_Camera) "__setattr__" = some (some (.builtin "object.__setattr__")))
    (mks_Camera : PySem.W.makesIn K c_Camera = true)
    (kp_Camera : PySem.W.keepIn K (.ref c_Camera) = true)
    (pg_Sky : PySem.W.plainGet K c_Sky Str.empty = true)
    (hd_Sky : PySem.W.hasDictIn K c_Sky = true)
    (po_Sky : PySem.W.plainOver K c_Sky = true)
    (sa_Sky : PySem.W.findIn K (.ref c_Sky) "__setattr__" = some (some (.builtin "object.__setattr__")))
    (ow_Sky : PySem.W.findIn K (.ref c_Sky) "__class__" = some (some (.builtin "object.__class__")))
    (ob_Sky : PySem.W.mroIn K c_Sky (.type "object") = some true)
    (mks_Sky : PySem.W.makesIn K c_Sky = true)
    (kp_Sky : PySem.W.keepIn K (.ref c_Sky) = true)
    (pg_Deed : PySem.W.plainGet K c_Deed Str.empty = true)
    (hd_Deed : PySem.W.hasDictIn K c_Deed = true)
    (po_Deed : PySem.W.plainOver K c_Deed = true)
    (sa_Deed : PySem.W.findIn K (.ref c_Deed) "__setattr__" = some (some (.builtin "object.__setattr__")))
    (ow_Deed : PySem.W.findIn K (.ref c_Deed) "__class__" = some (some (.builtin "object.__class__")))
    (ob_Deed : PySem.W.mroIn K c_Deed (.type "object") = some true)
    (mks_Deed : PySem.W.makesIn K c_Deed = true)
    (kp_Deed : PySem.W.keepIn K (.ref c_Deed) = true)
    (pg_Craft : PySem.W.plainGet K c_Craft Str.empty = true)
    (hd_Craft : PySem.W.hasDictIn K c_Craft = true)
    (po_Craft : PySem.W.plainOver K c_Craft = true)
    (sa_Craft : PySem.W.findIn K (.ref c_Craft) "__setattr__" = some (some (.builtin "object.__setattr__")))
    (mks_Craft : PySem.W.makesIn K c_Craft = true)
    (kp_Craft : PySem.W.keepIn K (.ref c_Craft) = true)
    (gs_ : PySem.W.specialIn K (.builtin "object.__class__") "__get__" = some (some (.builtin "getset_descriptor.__get__")))
    (tk_ : PySem.W.takesIn K (.builtin "object.__class__") = some true)
    (nb_Ground : PySem.W.findIn K (.ref c_Ground) "__ne__" = some (some (.builtin "object.__ne__")))
    (n_Ground_craters : PySem.W.findIn K (.ref c_Ground) "craters" = some none)
    (n_Camera_width : PySem.W.findIn K (.ref c_Camera) "width" = some none)
    (n_Camera_height : PySem.W.findIn K (.ref c_Camera) "height" = some none)
    (n_Camera_error : PySem.W.findIn K (.ref c_Camera) "error" = some none)
    (n_Camera_false : PySem.W.findIn K (.ref c_Camera) "false" = some none)
    (n_Camera_lost : PySem.W.findIn K (.ref c_Camera) "lost" = some none)
    (n_Deed_kind : PySem.W.findIn K (.ref c_Deed) "kind" = some none)
    (n_Deed_fuel : PySem.W.findIn K (.ref c_Deed) "fuel" = some none)
    (n_Deed_aim : PySem.W.findIn K (.ref c_Deed) "aim" = some none)
    (n_Deed_slips : PySem.W.findIn K (.ref c_Deed) "slips" = some none)
    (n_Sky_ground : PySem.W.findIn K (.ref c_Sky) "ground" = some none)
    (n_Sky_camera : PySem.W.findIn K (.ref c_Sky) "camera" = some none)
    (n_Sky_turns : PySem.W.findIn K (.ref c_Sky) "turns" = some none)
    (n_Sky_area : PySem.W.findIn K (.ref c_Sky) "area" = some none)
    (n_Craft_skies : PySem.W.findIn K (.ref c_Craft) "skies" = some none)
    (n_Craft_foot : PySem.W.findIn K (.ref c_Craft) "foot" = some none)
    (n_Craft_room : PySem.W.findIn K (.ref c_Craft) "room" = some none)
    (n_Craft_deeds : PySem.W.findIn K (.ref c_Craft) "deeds" = some none)
    (xd_BadText : PySem.W.hasDictIn K c_BadText = true)
    (xl_BadText : PySem.W.subIn K (.ref c_BadText) (.type "BaseException") = some true)
    (xn_BadText : PySem.W.typeIn K (.ref c_BadText) = some (.type "type"))
    (yga_BadText : PySem.W.findIn K (.ref c_BadText) "__getattribute__" = some (some (.builtin "BaseException.__getattribute__")))
    (ygg_BadText : PySem.W.findIn K (.ref c_BadText) "__getattr__" = some none)
    (ys_BadText : PySem.W.subIn K (.ref c_BadText) (.ref c_BadText) = some true)
    (zjc : PySem.W.findIn K (.ref c_BadText) "line" = some none)
    (zi4 : PySem.W.findIn K (.ref c_BadText) "word" = some none)
    (xkx_BadText : PySem.W.excInitIn K c_BadText PySem.ESX.exTail "Exception.__new__" = true)
    (xkxo_BadText : PySem.W.excOver K c_BadText PySem.ESX.exTail = true)
    (xc_BadText : PySem.W.takerIn K c_BadText "line" = some none)
    (xcb_BadText : PySem.W.takerIn K c_BadText "word" = some none)
    (xe_BadText : PySem.W.findIn K (.ref c_BadText) "__setattr__" = some (some (.builtin "object.__setattr__")))
    (xg_BadText : PySem.W.findIn K (.ref c_BadText) "__init__" = some (some (.ref fx_BadText)))
    (xh_BadText : PySem.W.isFn K (.ref fx_BadText) = true)
    (xk_BadText : PySem.W.keepIn K (.ref c_BadText) = true)
    (xm_BadText : PySem.W.subIn K (.ref c_BadText) (.type "Exception") = some true)
    (xo_BadText : PySem.W.mroIn K c_BadText (.ref c_BadText) = some true)
    (xks_BadText : PySem.W.ks_superIn K c_BadText c_BadText "__init__" = some (some (.builtin "Exception.__init__")))
    (xlk_BadText : K.lookup fx_BadText = some ⟨ox_BadText, odx_BadText, .func (PySem.W.ksFn "__init__" "BadText.__init__" (defArgs (inClass (top 19) 0)) (defBody (inClass (top 19) 0)) (defScope (inClass (top 19) 0)) .none kx_BadText dx_BadText px_BadText anx_BadText (.ref cda_BadText) ctx_BadText cc_BadText), slx_BadText⟩)
    (xcd_BadText : PySem.W.codeIn K (.ref cda_BadText) "BadText.__init__" = true)
    (xcr_BadText : K.lookup cda_BadText = some ⟨ccl_BadText, cdd_BadText, .fields vs_BadText, ccs_BadText⟩)
    (rfl_v_BadText : vs_BadText[2]? = some (.str file_BadText tf_BadText))
    (dec_f_BadText : ((l.prog.main.file : Str) == file_BadText) = true)
    (xcc_BadText : K.lookup cc_BadText = some ⟨cl_BadText, cld_BadText, .cell (some (.ref c_BadText)), csl_BadText⟩)
    (xq_ : PySem.W.nsIn K cStatics "thirdparty.any" = some none)
    (xz_super : PySem.W.nsIn K mainGlobals "super" = some none)
    (dec_top : (l.prog.main.scope.names.lookup ("super" : Str)).isSome = false)
    (gt_KINDS : PySem.W.nsIn K mainGlobals "KINDS" = some (some (.ref ga_KINDS)))
    (gl_KINDS : K.lookup ga_KINDS = some ⟨.type "tuple", god_KINDS, .seq gits_KINDS gn_KINDS, gsl_KINDS⟩)
    (dec_gs_KINDS : zfy ["step", "turn", "look", "land", "away"] gits_KINDS.toList = true)
    (dec_gz_KINDS : gits_KINDS.size ≤ sizeLine)
    (z_bool : PySem.W.nsIn K mainGlobals "bool" = some none)
    (z_isinstance : PySem.W.nsIn K mainGlobals "isinstance" = some none)
    (z_int : PySem.W.nsIn K mainGlobals "int" = some none)
    (z_len : PySem.W.nsIn K mainGlobals "len" = some none)
    (z_tuple : PySem.W.nsIn K mainGlobals "tuple" = some none)
    (z_enumerate : PySem.W.nsIn K mainGlobals "enumerate" = some none)
    (z_sorted : PySem.W.nsIn K mainGlobals "sorted" = some none)
    (z_all : PySem.W.nsIn K mainGlobals "all" = some none)
    (z_set : PySem.W.nsIn K mainGlobals "set" = some none)
    (z_zip : PySem.W.nsIn K mainGlobals "zip" = some none)
    (z_any : PySem.W.nsIn K mainGlobals "any" = some none)
    (z_range : PySem.W.nsIn K mainGlobals "range" = some none)
    (z_abs : PySem.W.nsIn K mainGlobals "abs" = some none)
    (z_max : PySem.W.nsIn K mainGlobals "max" = some none)
    (z_str : PySem.W.nsIn K mainGlobals "str" = some none)
    (z_list : PySem.W.nsIn K mainGlobals "list" = some none)
    (q_MOST_SIZE : ∃ t, PySem.W.nsIn K mainGlobals "MOST_SIZE" = some (some (.int 99 t)))
    (q_MOST_PLACE : ∃ t, PySem.W.nsIn K mainGlobals "MOST_PLACE" = some (some (.int 1000000 t)))
    (q_MOST_COUNT : ∃ t, PySem.W.nsIn K mainGlobals "MOST_COUNT" = some (some (.int 100 t)))
    (q_MOST_SIDE_grounds : ∃ t, PySem.W.nsIn K mainGlobals "MOST_SIDE_grounds" = some (some (.int 1000 t)))
    (q_MOST : ∃ t, PySem.W.nsIn K mainGlobals "MOST" = some (some (.int 1000 t)))
    (q_MOST_STANDINGS : ∃ t, PySem.W.nsIn K mainGlobals "MOST_STANDINGS" = some (some (.int 40000 t)))
    (q_MOST_ROOM : ∃ t, PySem.W.nsIn K mainGlobals "MOST_ROOM" = some (some (.int 1000 t)))
    (q_MOST_SIDE_drawings : ∃ t, PySem.W.nsIn K mainGlobals "MOST_SIDE_drawings" = some (some (.int 100 t)))
    (q_FIGURES : ∃ t, PySem.W.nsIn K mainGlobals "FIGURES" = some (some (.str "123456789" t)))
    : ∃ fd : FuncData, (∀ (s : Shared) (v : Value), BindsTo s fd ⟨[v], []⟩ [("script", v)]) ∧ ∀ base : Heap, K.In base → base.Ns mainGlobals mg → FnD l.prog w K mg base 9 fa fd ["script"] DL.z3c := by
  have e := hfa.symm.trans (PySem.W.mg_of X G a35)
  cases e
  letI : CA := ⟨c_Ground, c_Camera, c_Sky, c_BadText, c_Deed, c_Craft⟩
  have F0 := fun_mk (st := zdd) l0 c0 k0
  have F1 := fun_mk (st := zde) l1 c1 k1
  have F2 := fun_mk (st := zai) l2 c2 k2
  have F3 := fun_mk (st := zah) l3 c3 k3
  have F4 := fun_mk (st := zc2) l4 c4 k4
  have F5 := fun_mk (st := zct) l5 c5 k5
  have F6 := fun_mk (st := zat) l6 c6 k6
  have F7 := fun_mk (st := zmm) l7 c7 k7
  have F8 := fun_mk (st := zao) l8 c8 k8
  have F9 := fun_mk (st := zay) l9 c9 k9
  have F10 := fun_mk (st := zac) l10 c10 k10
  have F11 := fun_mk (st := z9) l11 c11 k11
  have F12 := fun_mk (st := zbl) l12 c12 k12
  have F13 := fun_mk (st := zcs) l13 c13 k13
  have F14 := fun_mk (st := zbk) l14 c14 k14
  have F15 := fun_mk (st := zcr) l15 c15 k15
  have F16 := fun_mk (st := zmo) l16 c16 k16
  have F17 := fun_mk (st := zmi) l17 c17 k17
  have F18 := fun_mk (st := zl2) l18 c18 k18
  have F19 := fun_mk (st := zl6) l19 c19 k19
  have F20 := fun_mk (st := zbo) l20 c20 k20
  have F21 := fun_mk (st := zbj) l21 c21 k21
  have F22 := fun_mk (st := zbt) l22 c22 k22
  have F23 := fun_mk (st := zaq) l23 c23 k23
  have F24 := fun_mk (st := za0) l24 c24 k24
  have F25 := fun_mk (st := zbb) l25 c25 k25
  have F26 := fun_mk (st := zdc) l26 c26 k26
  have F27 := fun_mk (st := zf5) l27 c27 k27
  have F28 := fun_mk (st := zaz) l28 c28 k28
  have F29 := fun_mk (st := zet) l29 c29 k29
  have F30 := fun_mk (st := zbc) l30 c30 k30
  have F31 := fun_mk (st := zad) l31 c31 k31
  have F32 := fun_mk (st := zb2) l32 c32 k32
  have F33 := fun_mk (st := zbr) l33 c33 k33
  have F34 := fun_mk (st := zba) l34 c34 k34
  have F35 := fun_mk (st := zke) l35 c35 k35
  have B0 := F0.binds (ps := ["thing", "low", "high"]) fun _ _ _ _ _ _ us hl => match us, hl with | [_, _, _], _ => rfl
  have B1 := F1.binds (ps := ["thing", "low", "high"]) fun _ _ _ _ _ _ us hl => match us, hl with | [_, _, _], _ => rfl
  have B2 := F2.binds (ps := ["self", "craters"]) fun _ _ _ _ _ _ us hl => match us, hl with | [_, _], _ => rfl
  have B3 := F3.binds (ps := ["self", "width", "height", "error", "false", "lost"]) fun _ _ _ _ _ _ us hl => match us, hl with | [_, _, _, _, _, _], _ => rfl
  have B4 := F4.binds (ps := ["thing"]) fun _ _ _ _ _ _ us hl => match us, hl with | [_], _ => rfl
  have B5 := F5.binds (ps := ["kind", "aim"]) fun _ _ _ _ _ _ us hl => match us, hl with | [_, _], _ => rfl
  have B6 := F6.binds (ps := ["self", "kind", "fuel", "aim", "slips"]) fun _ _ _ _ _ _ us hl => match us, hl with | [_, _, _, _, _], _ => rfl
  have B7 := F7.binds (ps := ["fuel", "aim"]) fun _ _ _ _ _ _ us hl => match us, hl with | [_, _], _ => rfl
  have B8 := F8.binds (ps := ["self", "ground", "camera", "turns", "area"]) fun _ _ _ _ _ _ us hl => match us, hl with | [_, _, _, _, _], _ => rfl
  have B9 := F9.binds (ps := ["self", "other"]) fun _ _ _ _ _ _ us hl => match us, hl with | [_, _], _ => rfl
  have B10 := F10.binds (ps := ["skies"]) fun _ _ _ _ _ _ us hl => match us, hl with | [_], _ => rfl
  have B11 := F11.binds (ps := ["self", "skies", "foot", "room", "deeds"]) fun _ _ _ _ _ _ us hl => match us, hl with | [_, _, _, _, _], _ => rfl
  have B12 := F12.binds (ps := ["script", "index"]) fun _ _ _ _ _ _ us hl => match us, hl with | [_, _], _ => rfl
  have B13 := F13.binds (ps := ["draw", "many"]) fun _ _ _ _ _ _ us hl => match us, hl with | [_, _], _ => rfl
  have B14 := F14.binds (ps := ["draw"]) fun _ _ _ _ _ _ us hl => match us, hl with | [_], _ => rfl
  have B15 := F15.binds (ps := ["draw", "items"]) fun _ _ _ _ _ _ us hl => match us, hl with | [_, _], _ => rfl
  have B16 := F16.binds (ps := ["fuel", "aim"]) fun _ _ _ _ _ _ us hl => match us, hl with | [_, _], _ => rfl
  have B17 := F17.binds (ps := ["fuel", "aim", "slips"]) fun _ _ _ _ _ _ us hl => match us, hl with | [_, _, _], _ => rfl
  have B18 := F18.binds (ps := ["fuel", "slips"]) fun _ _ _ _ _ _ us hl => match us, hl with | [_, _], _ => rfl
  have B19 := F19.binds (ps := ["fuel"]) fun _ _ _ _ _ _ us hl => match us, hl with | [_], _ => rfl
  have B20 := F20.binds (ps := ["draw", "cameras"]) fun _ _ _ _ _ _ us hl => match us, hl with | [_, _], _ => rfl
  have B21 := F21.binds (ps := ["draw", "ground"]) fun _ _ _ _ _ _ us hl => match us, hl with | [_, _], _ => rfl
  have B22 := F22.binds (ps := ["draw"]) fun _ _ _ _ _ _ us hl => match us, hl with | [_], _ => rfl
  have B23 := F23.binds (ps := ["text"]) fun _ _ _ _ _ _ us hl => match us, hl with | [_], _ => rfl
  have B24 := F24.binds (ps := ["self"]) fun _ _ _ _ _ _ us hl => match us, hl with | [_], _ => rfl
  have B25 := F25.binds (ps := ["draw", "craft"]) fun _ _ _ _ _ _ us hl => match us, hl with | [_, _], _ => rfl
  have B26 := F26.binds (ps := ["craft", "cell"]) fun _ _ _ _ _ _ us hl => match us, hl with | [_, _], _ => rfl
  have B27 := F27.binds (ps := ["x", "y", "turn"]) fun _ _ _ _ _ _ us hl => match us, hl with | [_, _, _], _ => rfl
  have B28 := F28.binds (ps := ["self", "standing"]) fun _ _ _ _ _ _ us hl => match us, hl with | [_, _], _ => rfl
  have B29 := F29.binds (ps := ["size"]) fun _ _ _ _ _ _ us hl => match us, hl with | [_], _ => rfl
  have B30 := F30.binds (ps := ["ground", "lows", "highs"]) fun _ _ _ _ _ _ us hl => match us, hl with | [_, _, _], _ => rfl
  have B31 := F31.binds (ps := ["self", "standing"]) fun _ _ _ _ _ _ us hl => match us, hl with | [_, _], _ => rfl
  have B32 := F32.binds (ps := ["text"]) fun _ _ _ _ _ _ us hl => match us, hl with | [_], _ => rfl
  have B33 := F33.binds (ps := ["craft", "lows", "highs"]) fun _ _ _ _ _ _ us hl => match us, hl with | [_, _, _], _ => rfl
  have B34 := F34.binds (ps := ["craft", "belief", "lows", "highs"]) fun _ _ _ _ _ _ us hl => match us, hl with | [_, _, _, _], _ => rfl
  have B35 := F35.binds (ps := ["script"]) fun _ _ _ _ _ _ us hl => match us, hl with | [_], _ => rfl
  let T : Txt l.prog K mg := ⟨fx_BadText,
    _, _, F0, PySem.W.mg_of X G a0, B0,
    _, _, F1, PySem.W.mg_of X G a1, B1,
    _, _, F2, B2,
    _, _, F3, B3,
    _, _, F4, PySem.W.mg_of X G a4, B4,
    _, _, F5, PySem.W.mg_of X G a5, B5,
    _, _, F6, B6,
    _, _, F7, PySem.W.mg_of X G a7, B7,
    _, _, F8, B8,
    _, _, F9, B9,
    _, _, F10, PySem.W.mg_of X G a10, B10,
    _, _, F11, B11,
    _, _, F12, PySem.W.mg_of X G a12, B12,
    _, _, F13, PySem.W.mg_of X G a13, B13,
    _, _, F14, PySem.W.mg_of X G a14, B14,
    _, _, F15, PySem.W.mg_of X G a15, B15,
    _, _, F16, PySem.W.mg_of X G a16, B16,
    _, _, F17, PySem.W.mg_of X G a17, B17,
    _, _, F18, PySem.W.mg_of X G a18, B18,
    _, _, F19, PySem.W.mg_of X G a19, B19,
    _, _, F20, PySem.W.mg_of X G a20, B20,
    _, _, F21, PySem.W.mg_of X G a21, B21,
    _, _, F22, PySem.W.mg_of X G a22, B22,
    _, _, F23, PySem.W.mg_of X G a23, B23,
    _, _, F24, B24,
    _, _, F25, PySem.W.mg_of X G a25, B25,
    _, _, F26, PySem.W.mg_of X G a26, B26,
    _, _, F27, PySem.W.mg_of X G a27, B27,
    _, _, F28, B28,
    _, _, F29, PySem.W.mg_of X G a29, B29,
    _, _, F30, PySem.W.mg_of X G a30, B30,
    _, _, F31, B31,
    _, _, F32, PySem.W.mg_of X G a32, B32,
    _, _, F33, PySem.W.mg_of X G a33, B33,
    _, _, F34, PySem.W.mg_of X G a34, B34,
    _, _, F35, PySem.W.mg_of X G a35, B35,
    PySem.W.mg_none_of X G z_bool,
    PySem.W.mg_none_of X G z_isinstance,
    PySem.W.mg_none_of X G z_int,
    PySem.W.mg_none_of X G z_len,
    PySem.W.mg_none_of X G z_tuple,
    PySem.W.mg_none_of X G z_enumerate,
    PySem.W.mg_none_of X G z_sorted,
    PySem.W.mg_none_of X G z_all,
    PySem.W.mg_none_of X G z_set,
    PySem.W.mg_none_of X G z_zip,
    PySem.W.mg_none_of X G z_any,
    PySem.W.mg_none_of X G z_range,
    PySem.W.mg_none_of X G z_abs,
    PySem.W.mg_none_of X G z_max,
    PySem.W.mg_none_of X G z_str,
    PySem.W.mg_none_of X G z_list,
    DL.z5r (by intro C hC; simp only [List.mem_cons, List.not_mem_nil, or_false] at hC; rcases hC with rfl | rfl | rfl; exact ⟨⟨pg_Sky, hd_Sky, po_Sky, sa_Sky⟩, ow_Sky, gs_, tk_, ob_Sky⟩; exact ⟨⟨pg_Deed, hd_Deed, po_Deed, sa_Deed⟩, ow_Deed, gs_, tk_, ob_Deed⟩; exact ⟨⟨pg_Ground, hd_Ground, po_Ground, sa_Ground⟩, ow_Ground, gs_, tk_, ob_Ground⟩),
    (let ⟨t, e⟩ := q_MOST_SIZE; ⟨t, PySem.W.mg_of X G e⟩),
    (let ⟨t, e⟩ := q_MOST_PLACE; ⟨t, PySem.W.mg_of X G e⟩),
    (let ⟨t, e⟩ := q_MOST_COUNT; ⟨t, PySem.W.mg_of X G e⟩),
    n_Ground_craters,
    ⟨pg_Ground, hd_Ground, po_Ground, sa_Ground⟩,
    (let ⟨t, e⟩ := q_MOST_SIDE_grounds; ⟨t, PySem.W.mg_of X G e⟩),
    n_Camera_width,
    ⟨pg_Camera, hd_Camera, po_Camera, sa_Camera⟩,
    n_Camera_height,
    n_Camera_error,
    n_Camera_false,
    n_Camera_lost,
    (let ⟨t, e⟩ := q_MOST; ⟨t, PySem.W.mg_of X G e⟩),
    ⟨_, _, _, _, _, PySem.W.mg_of X G gt_KINDS, gl_KINDS, dec_gs_KINDS, dec_gz_KINDS⟩,
    n_Deed_kind,
    ⟨pg_Deed, hd_Deed, po_Deed, sa_Deed⟩,
    n_Deed_fuel,
    n_Deed_aim,
    n_Deed_slips,
    PySem.W.mg_of X G e_Deed,
    ⟨mks_Deed, a6, i6, kp_Deed⟩,
    (let ⟨t, e⟩ := q_MOST_STANDINGS; ⟨t, PySem.W.mg_of X G e⟩),
    n_Sky_ground,
    ⟨pg_Sky, hd_Sky, po_Sky, sa_Sky⟩,
    n_Sky_camera,
    n_Sky_turns,
    n_Sky_area,
    PySem.W.mg_of X G e_Ground,
    ⟨a9, i9, k9⟩,
    PySem.W.mg_of X G e_Sky,
    (let ⟨t, e⟩ := q_MOST_ROOM; ⟨t, PySem.W.mg_of X G e⟩),
    n_Craft_skies,
    ⟨pg_Craft, hd_Craft, po_Craft, sa_Craft⟩,
    n_Craft_foot,
    n_Craft_room,
    n_Craft_deeds,
    ⟨mks_Ground, a2, i2, kp_Ground⟩,
    PySem.W.mg_of X G e_Camera,
    ⟨mks_Camera, a3, i3, kp_Camera⟩,
    ⟨mks_Sky, a8, i8, kp_Sky⟩,
    PySem.W.mg_of X G e_Craft,
    ⟨mks_Craft, a11, i11, kp_Craft⟩,
    (let ⟨t, e⟩ := q_MOST_SIDE_drawings; ⟨t, PySem.W.mg_of X G e⟩),
    ⟨xkx_BadText, xkxo_BadText, xc_BadText, xcb_BadText, by decide, xd_BadText, xe_BadText, xg_BadText, xh_BadText, xk_BadText, xl_BadText, xm_BadText, xn_BadText, xo_BadText, xks_BadText, xq_, PySem.W.mg_none_of X G xz_super, dec_top,
      ⟨_, _, _, _, _, _, _, _, _, _, _, _, _, _, _, _, _, _, _, _, _, _, _, _, _, _, _, _, _, _, xlk_BadText, xcd_BadText, rfl, rfl, rfl, rfl, rfl, rfl, rfl, rfl, rfl, by decide +kernel, ⟨_, rfl, rfl⟩, by decide, by decide, by decide, by decide, by decide,
      ⟨_, _, _, _, _, _, xcr_BadText, rfl_v_BadText, dec_f_BadText⟩, ⟨_, _, _, xcc_BadText⟩, ⟨_, fun _ => rfl⟩, fun _ => ⟨rfl, rfl, rfl, rfl, rfl, fun _ _ _ _ _ q => Calls.Constant_str (q _ _ rfl rfl rfl rfl)⟩, fun _ _ _ _ => .of_eq rfl⟩⟩,
    PySem.W.mg_of X G e_BadText,
    (let ⟨t, e⟩ := q_FIGURES; ⟨t, PySem.W.mg_of X G e⟩),
    ⟨a24, i24, k24⟩,
    PySem.W.exm_ref xl_BadText xd_BadText xn_BadText ys_BadText,
    ⟨yga_BadText, ygg_BadText, xl_BadText, xd_BadText⟩,
    zjc,
    zi4,
    ⟨a31, i31, k31⟩,
    ⟨a28, i28, k28⟩,
    ⟨ob_Ground, nb_Ground⟩⟩
  refine ⟨PySem.W.fnOf "law" "law" (defArgs zke) (defBody zke) (defScope zke) .none kV35 dc35 pm35 an35 cd35 ct35, fun s v => .of_eq rfl, fun base _ _ => ?_⟩
  exact zaa4 T
omit [CA]
theorem z9c {w : World} {K : PySem.W.Frag} {h : Heap} {mg : Str → Option Value} {fa : Addr} (X : K.In h) (G : h.Ns mainGlobals mg) (hfa : mg "law" = some (.ref fa)) (c : HB.zrc fsB fnB K) :
    ∃ fd : FuncData, (∀ (s : Shared) (v : Value), BindsTo s fd ⟨[v], []⟩ [("script", v)]) ∧ ∀ base : Heap, K.In base → base.Ns mainGlobals mg → FnD PySem.Challenge.rw_moonfall_k19_whole_drawings.prog w K mg base 9 fa fd ["script"] DL.z3c := by
  obtain ⟨_, _, _, _, _, _, _, _, l0⟩ := c.f dB0 0
  obtain ⟨_, _, _, _, _, _, _, _, l1⟩ := c.f dB1 1
  obtain ⟨_, _, _, _, _, _, _, _, l2⟩ := c.f dB2 2
  obtain ⟨_, _, _, _, _, _, _, _, l3⟩ := c.f dB3 3
  obtain ⟨_, _, _, _, _, _, _, _, l4⟩ := c.f dB4 4
  obtain ⟨_, _, _, _, _, _, _, _, l5⟩ := c.f dB5 5
  obtain ⟨_, _, _, _, _, _, _, _, l6⟩ := c.f dB6 6
  obtain ⟨_, _, _, _, _, _, _, _, l7⟩ := c.f dB7 7
  obtain ⟨_, _, _, _, _, _, _, _, l8⟩ := c.f dB8 8
  obtain ⟨_, _, _, _, _, _, _, _, l9⟩ := c.f dB9 9
  obtain ⟨_, _, _, _, _, _, _, _, l10⟩ := c.f dB10 10
  obtain ⟨_, _, _, _, _, _, _, _, l11⟩ := c.f dB11 11
  obtain ⟨_, _, _, _, _, _, _, _, l12⟩ := c.f dB12 12
  obtain ⟨_, _, _, _, _, _, _, _, l13⟩ := c.f dB13 13
  obtain ⟨_, _, _, _, _, _, _, _, l14⟩ := c.f dB14 14
  obtain ⟨_, _, _, _, _, _, _, _, l15⟩ := c.f dB15 15
  obtain ⟨_, _, _, _, _, _, _, _, l16⟩ := c.f dB16 16
  obtain ⟨_, _, _, _, _, _, _, _, l17⟩ := c.f dB17 17
  obtain ⟨_, _, _, _, _, _, _, _, l18⟩ := c.f dB18 18
  obtain ⟨_, _, _, _, _, _, _, _, l19⟩ := c.f dB19 19
  obtain ⟨_, _, _, _, _, _, _, _, l20⟩ := c.f dB20 20
  obtain ⟨_, _, _, _, _, _, _, _, l21⟩ := c.f dB21 21
  obtain ⟨_, _, _, _, _, _, _, _, l22⟩ := c.f dB22 22
  obtain ⟨_, _, _, _, _, _, _, _, l23⟩ := c.f dB23 23
  obtain ⟨_, _, _, _, _, _, _, _, l24⟩ := c.f dB24 24
  obtain ⟨_, _, _, _, _, _, _, _, l25⟩ := c.f dB25 25
  obtain ⟨_, _, _, _, _, _, _, _, l26⟩ := c.f dB26 26
  obtain ⟨_, _, _, _, _, _, _, _, l27⟩ := c.f dB27 27
  obtain ⟨_, _, _, _, _, _, _, _, l28⟩ := c.f dB28 28
  obtain ⟨_, _, _, _, _, _, _, _, l29⟩ := c.f dB29 29
  obtain ⟨_, _, _, _, _, _, _, _, l30⟩ := c.f dB30 30
  obtain ⟨_, _, _, _, _, _, _, _, l31⟩ := c.f dB31 31
  obtain ⟨_, _, _, _, _, _, _, _, l32⟩ := c.f dB32 32
  obtain ⟨_, _, _, _, _, _, _, _, l33⟩ := c.f dB33 33
  obtain ⟨_, _, _, _, _, _, _, _, l34⟩ := c.f dB34 34
  obtain ⟨_, _, _, _, _, _, _, _, l35⟩ := c.f dB35 35
  obtain ⟨_, _, _, _, _, _, _, _, xlk_BadText⟩ := HB.z9a (d := dB36) rfl (c.fn 36 (by kernel_rfl)) (c.fact 0 (f := fun K => PySem.W.codeIn K (HB.cdV K (He.fAd K ("BadText", some "__init__"))) "BadText.__init__") (by kernel_rfl))
  obtain ⟨_, _, _, _, _, _, xcr_BadText, rv_BadText, df_BadText⟩ := HB.z57 (c.fact 1 (f := fun K => HB.z51 K (HB.cdA K (He.fAd K ("BadText", some "__init__"))) (PySem.Challenge.rw_moonfall_k19_whole_drawings.prog.main.file : Str)) (by kernel_rfl))
  obtain ⟨_, _, _, xcc_BadText⟩ := HB.z5o (c.fact 2 (f := fun K => HB.zd6 K (HB.clA K (He.fAd K ("BadText", some "__init__"))) (He.ga K "BadText")) (by kernel_rfl))
  obtain ⟨_, _, _, _, gl_KINDS, gs_KINDS, gz_KINDS⟩ := HB.z71 (c.fact 3 (f := fun K => HB.seqB K "KINDS" (zfy ["step", "turn", "look", "land", "away"])) (by kernel_rfl))
  exact z82 (l := PySem.Challenge.rw_moonfall_k19_whole_drawings) (f0 := (He.fAd K ("is_whole", none))) (f1 := (He.fAd K ("is_point", none))) (f2 := (He.fAd K ("Ground", some "__init__"))) (f3 := (He.fAd K ("Camera", some "__init__"))) (f4 := (He.fAd K ("is_shift", none))) (f5 := (He.fAd K ("wrong_aim", none))) (f6 := (He.fAd K ("Deed", some "__init__"))) (f7 := (He.fAd K ("turn", none))) (f8 := (He.fAd K ("Sky", some "__init__"))) (f9 := (He.fAd K ("Ground", some "__eq__"))) (f10 := (He.fAd K ("have_one_ground", none))) (f11 := (He.fAd K ("Craft", some "__init__"))) (f12 := (He.fAd K ("_law_number", none))) (f13 := (He.fAd K ("_law_take", none))) (f14 := (He.fAd K ("_law_ground", none))) (f15 := (He.fAd K ("_law_pick", none))) (f16 := (He.fAd K ("look", none))) (f17 := (He.fAd K ("step", none))) (f18 := (He.fAd K ("land", none))) (f19 := (He.fAd K ("away", none))) (f20 := (He.fAd K ("_law_deeds", none))) (f21 := (He.fAd K ("_law_camera", none))) (f22 := (He.fAd K ("_law_craft", none))) (f23 := (He.fAd K ("read_ground", none))) (f24 := (He.fAd K ("Sky", some "standings"))) (f25 := (He.fAd K ("_law_belief", none))) (f26 := (He.fAd K ("is_clear", none))) (f27 := (He.fAd K ("turned", none))) (f28 := (He.fAd K ("Craft", some "is_safe"))) (f29 := (He.fAd K ("sign_of", none))) (f30 := (He.fAd K ("draw_ground", none))) (f31 := (He.fAd K ("Craft", some "cell_below"))) (f32 := (He.fAd K ("_law_fault", none))) (f33 := (He.fAd K ("draw_clear", none))) (f34 := (He.fAd K ("draw_belief", none))) (f35 := (He.fAd K ("law", none))) (c_Ground := (He.ga K "Ground")) (c_Camera := (He.ga K "Camera")) (c_Sky := (He.ga K "Sky")) (c_BadText := (He.ga K "BadText")) (c_Deed := (He.ga K "Deed")) (c_Craft := (He.ga K "Craft")) (fx_BadText := (He.fAd K ("BadText", some "__init__"))) (cda_BadText := (HB.cdA K (He.fAd K ("BadText", some "__init__")))) (cc_BadText := (HB.clA K (He.fAd K ("BadText", some "__init__")))) (ga_KINDS := He.ga K "KINDS") X G hfa (c.d 5)
    (c.d 6)
    (c.d 7)
    (c.d 8)
    (c.d 9)
    (c.d 10)
    (c.d 11)
    l0
    (c.q 12)
    (c.q 13)
    (c.d 14)
    l1
    (c.q 15)
    (c.q 16)
    (c.d 17)
    (c.q 18)
    l2
    (c.q 19)
    (c.q 20)
    (c.d 21)
    (c.q 22)
    l3
    (c.q 23)
    (c.q 24)
    (c.d 25)
    l4
    (c.q 26)
    (c.q 27)
    (c.d 28)
    l5
    (c.q 29)
    (c.q 30)
    (c.d 31)
    (c.q 32)
    l6
    (c.q 33)
    (c.q 34)
    (c.d 35)
    l7
    (c.q 36)
    (c.q 37)
    (c.d 38)
    (c.q 39)
    l8
    (c.q 40)
    (c.q 41)
    (c.d 42)
    (c.q 43)
    l9
    (c.q 44)
    (c.q 45)
    (c.d 46)
    l10
    (c.q 47)
    (c.q 48)
    (c.d 49)
    (c.q 50)
    l11
    (c.q 51)
    (c.q 52)
    (c.d 53)
    l12
    (c.q 54)
    (c.q 55)
    (c.d 56)
    l13
    (c.q 57)
    (c.q 58)
    (c.d 59)
    l14
    (c.q 60)
    (c.q 61)
    (c.d 62)
    l15
    (c.q 63)
    (c.q 64)
    (c.d 65)
    l16
    (c.q 66)
    (c.q 67)
    (c.d 68)
    l17
    (c.q 69)
    (c.q 70)
    (c.d 71)
    l18
    (c.q 72)
    (c.q 73)
    (c.d 74)
    l19
    (c.q 75)
    (c.q 76)
    (c.d 77)
    l20
    (c.q 78)
    (c.q 79)
    (c.d 80)
    l21
    (c.q 81)
    (c.q 82)
    (c.d 83)
    l22
    (c.q 84)
    (c.q 85)
    (c.d 86)
    l23
    (c.q 87)
    (c.q 88)
    (c.d 89)
    (c.q 90)
    l24
    (c.q 91)
    (c.q 92)
    (c.d 93)
    l25
    (c.q 94)
    (c.q 95)
    (c.d 96)
    l26
    (c.q 97)
    (c.q 98)
    (c.d 99)
    l27
    (c.q 100)
    (c.q 101)
    (c.d 102)
    (c.q 103)
    l28
    (c.q 104)
    (c.q 105)
    (c.d 106)
    l29
    (c.q 107)
    (c.q 108)
    (c.d 109)
    l30
    (c.q 110)
    (c.q 111)
    (c.d 112)
    (c.q 113)
    l31
    (c.q 114)
    (c.q 115)
    (c.d 116)
    l32
    (c.q 117)
    (c.q 118)
    (c.d 119)
    l33
    (c.q 120)
    (c.q 121)
    (c.d 122)
    l34
    (c.q 123)
    (c.q 124)
    (c.d 125)
    l35
    (c.q 126)
    (c.q 127)
    (c.q 128)
    (c.q 129)
    (c.q 130)
    (c.d 131)
    (c.d 132)
    (c.d 133)
    (c.q 134)
    (c.q 135)
    (c.q 136)
    (c.q 137)
    (c.q 138)
    (c.d 139)
    (c.q 140)
    (c.q 141)
    (c.q 142)
    (c.q 143)
    (c.q 144)
    (c.d 145)
    (c.d 146)
    (c.d 147)
    (c.q 148)
    (c.q 149)
    (c.q 150)
    (c.q 151)
    (c.q 152)
    (c.d 153)
    (c.d 154)
    (c.d 155)
    (c.q 156)
    (c.q 157)
    (c.q 158)
    (c.q 159)
    (c.q 160)
    (c.d 161)
    (c.q 162)
    (c.q 163)
    (c.d 164)
    (c.d 165)
    (c.d 166)
    (c.d 167)
    (c.d 168)
    (c.d 169)
    (c.d 170)
    (c.d 171)
    (c.d 172)
    (c.d 173)
    (c.d 174)
    (c.d 175)
    (c.d 176)
    (c.d 177)
    (c.d 178)
    (c.d 179)
    (c.d 180)
    (c.d 181)
    (c.d 182)
    (c.d 183)
    (c.d 184)
    (c.q 185)
    (c.d 186)
    (c.d 187)
    (c.d 188)
    (c.d 189)
    (c.d 190)
    (c.d 191)
    (c.d 192)
    (c.q 193)
    (c.q 194)
    (c.d 195)
    (c.d 196)
    (c.d 197)
    (c.d 198)
    (c.q 199)
    (c.q 200)
    (c.d 201)
    (c.d 202)
    (c.d 203)
    xlk_BadText
    (c.q 204)
    xcr_BadText
    rv_BadText
    df_BadText
    xcc_BadText
    (c.d 205)
    (c.d 206)
    (by decide +kernel)
    (HB.z2y (c.fact 4 (f := fun K => HB.decB (PySem.W.nsIn K mainGlobals "KINDS") (some (some (.ref (He.ga K "KINDS"))))) (by kernel_rfl)))
    gl_KINDS
    gs_KINDS
    gz_KINDS
    (c.d 207)
    (c.d 208)
    (c.d 209)
    (c.d 210)
    (c.d 211)
    (c.d 212)
    (c.d 213)
    (c.d 214)
    (c.d 215)
    (c.d 216)
    (c.d 217)
    (c.d 218)
    (c.d 219)
    (c.d 220)
    (c.d 221)
    (c.d 222)
    (HB.zms (c.fact 223 (f := fun K => HB.intB K "MOST_SIZE" 99) (by kernel_rfl)))
    (HB.zms (c.fact 224 (f := fun K => HB.intB K "MOST_PLACE" 1000000) (by kernel_rfl)))
    (HB.zms (c.fact 225 (f := fun K => HB.intB K "MOST_COUNT" 100) (by kernel_rfl)))
    (HB.zms (c.fact 226 (f := fun K => HB.intB K "MOST_SIDE_grounds" 1000) (by kernel_rfl)))
    (HB.zms (c.fact 227 (f := fun K => HB.intB K "MOST" 1000) (by kernel_rfl)))
    (HB.zms (c.fact 228 (f := fun K => HB.intB K "MOST_STANDINGS" 40000) (by kernel_rfl)))
    (HB.zms (c.fact 229 (f := fun K => HB.intB K "MOST_ROOM" 1000) (by kernel_rfl)))
    (HB.zms (c.fact 230 (f := fun K => HB.intB K "MOST_SIDE_drawings" 100) (by kernel_rfl)))
    (HB.z7l (c.fact 231 (f := fun K => HB.strB K "FIGURES" "123456789") (by kernel_rfl)))
end M
open PySem PySem.W PySem.Calls PyProof.Rows in
set_option maxRecDepth 100000 in
set_option maxHeartbeats 0 in
theorem PySem.Challenge.cw_moonfall_k19_whole_drawings_holds : PySem.Challenge.rw_moonfall_k19_whole_drawings.Holds := by
  w_on; o_law
  refine HandSHeadRun.head_any (r := OpenLaw.row PySem.Challenge.rw_moonfall_k19_whole_drawings) (q := view (OpenLaw.row PySem.Challenge.rw_moonfall_k19_whole_drawings).prog [66]) (H := M.hkB) (ob := M.obB) (M := 20000) (loose := M.zuz) (d := HandSHeadRun.topDef (OpenLaw.row PySem.Challenge.rw_moonfall_k19_whole_drawings).prog 66) (kwd := []) M.z23
    (by kernel_rfl) (fun s => by kernel_rfl) M.runB (by kernel_rfl) (by kernel_rfl) (by kernel_rfl) (by rfl) (by first | assumption | decide +kernel) (by decide +kernel) ⟨rfl, rfl, rfl, rfl, rfl, by decide +kernel⟩ ?hw ?hc
  case hw => w_witness2
  case hc =>
    refine HB.z7n (l := PySem.Challenge.rw_moonfall_k19_whole_drawings) (k := 9) (x := "script") rfl (by kernel_rfl) ⟨rfl, by decide, by decide⟩ ?F
    intro w mg fa h Y G hmg0
    obtain ⟨K, KX, c⟩ := Y
    have hmg : mg ("law" : PySem.Str) = some (.ref fa) := by
      have e : (HandSHeadRun.topDef (OpenLaw.row PySem.Challenge.rw_moonfall_k19_whole_drawings).prog 66).name = ("law" : PySem.Str) := by kernel_rfl
      rw [← e]
      exact hmg0
    obtain ⟨fd, hb, hF⟩ := M.z9c (w := w) KX G hmg c
    exact ⟨K, fd, KX, hb, hF⟩
