import PyProof.Rows.All
import Wide.All
import OpenK.AllK
import Wide.FinOn
import HandS.ForMost
import KE.KStateDown
import KE.KSuper
import HandS.Head0
import HandS.Head1
import HandS.Head2
import HandS.HeadEnd
import HandS.HeadHook1
import HandS.HeadHook2
import HandS.Words
import PySem.Challenge.RW_moonfall_k25_whole_as_told
import KE.KDictKeyed
import HandS.TupAny
import HandS.Style
import KE.SortData
import KE.DataCmp
import KE.DatumOrd
import PyProof.P3In
import HandS.TupLen
import HandS.Iter
import KE.KDictWalk
import HandS.DictComp
import KE.KDictPairs
import HandS.More
import KE.KDictCopyH
import KE.KDictSum
import HandS.Zip
import HandS.IsInst
import KE.GoesMore
import HandS.DictTup
import HandS.Star
import KE.KDictItemsList
import PyProof.Transfer
import HandS.Dict
import PyProof.MaxThree
import PyProof.EqAt
import PyProof.EqKinds
import HandS.Remove
import KE.KDictList
import KE.KDictDisplayH
import PyProof.TupleOfSeq
import HandS.Conv
import HandS.OwnEq
import HandS.TupSets
import HandS.Comp
import HandS.SetFor
import HandS.Strs
import KE.KSortAsk
import KE.SortCalls
import KE.LtData
import KE.KSortTup
import KE.DataMinMax
import PyProof.ZipIter
import HandS.Zip0
import HandS.ForExc
import HandS.ExcSuper
import HandS.ExcField
import KE.KExcInit
import KE.KExcSuper
import HandS.ExcIs
set_option Elab.async false
set_option linter.all false
set_option maxRecDepth 100000
set_option maxHeartbeats 4000000
namespace HB
open PySem PySem.Spec PyProof.Rows L2
/-- a list of addresses worked out ahead -/
def frA {α : Type} : List Addr → (List Addr → α) → α
  | [], k => k []
  | a :: r, k => HandSHeadRun.frNat a fun a => frA r fun r => k (a :: r)
def nx1 (o : Obj) : List Addr := match o.data with
  | .cls cd => [cd.ns]
  | .dict es _ => es.toList.flatMap fun e => He.refV e.val
  | .func fd => He.refV fd.code ++ fd.closure.map (·.2)
  | _ => []
def lv (g : Addr → Option Obj) (as : List Addr) : List Addr := as.flatMap fun a => match g a with
  | some o => nx1 o
  | none => []
def isCl (g : Addr → Option Obj) (a : Addr) : Bool := match g a with
  | some ⟨_, _, .cls _, _⟩ => true
  | _ => false
/-- the classes and what they hold stand first: most looks go there -/
def asB (g : Addr → Option Obj) : List Addr :=
  frA (lv g [mainGlobals]) fun l1 => frA (l1.filter (isCl g)) fun c1 => frA (lv g c1) fun n1 => frA (lv g n1) fun m1 => frA (l1.filter fun a => !isCl g a) fun r1 =>
    [mainGlobals, cStatics] ++ (c1 ++ (n1 ++ (m1 ++ (r1 ++ (lv g m1 ++ lv g r1)))))
def frO {α : Type} (o : Obj) (k : Obj → α) : α := match o with
  | ⟨c, d, dt, sl⟩ => k ⟨c, d, dt, sl⟩
theorem z3s {α : Type} (o : Obj) (k : Obj → α) : frO o k = k o := by cases o; rfl
def frL {α : Type} : PySem.W.Frag → (PySem.W.Frag → α) → α
  | [], k => k []
  | (a, o) :: r, k => HandSHeadRun.frNat a fun a => frO o fun o => frL r fun r => k ((a, o) :: r)
theorem zt9 {α : Type} : ∀ (K : PySem.W.Frag) (k : PySem.W.Frag → α), frL K k = k K
  | [], _ => rfl
  | (a, o) :: r, k => by
    show HandSHeadRun.frNat a (fun a => frO o fun o => frL r fun r => k ((a, o) :: r)) = _
    rw [HandSHeadRun.frNat_eq, z3s, zt9 r]
structure DefB where
  at_ : Str × Option Str
  name : Str
  qual : Str
  params : Arguments
  body : List Stmt
  scope : Scope
  clo : List Str := []
abbrev FnV : Type := Option (Str × Str × Arguments × FuncBody × Scope × Addr × List Str × Value × Addr)
def fnO (K : PySem.W.Frag) (p : Str × Option Str) : FnV := match K.lookup (He.fAd K p) with
  | some ⟨_, _, .func fd, _⟩ => some (fd.name, fd.qualname, fd.params, fd.body, fd.scope, fd.globals, fd.closure.map (·.1), fd.defaults, fd.builtins)
  | _ => none
def DefB.val (d : DefB) : FnV := some (d.name, d.qual, d.params, .stmts d.body, d.scope, mainGlobals, d.clo, .none, builtinsNs)
/-- the code of a function -/
def cdV (K : PySem.W.Frag) (f : Addr) : Value := match K.lookup f with
  | some ⟨_, _, .func fd, _⟩ => fd.code
  | _ => .none
theorem z48 {K : PySem.W.Frag} {d : DefB} (hc : d.clo = []) (e : fnO K d.at_ = d.val) :
    ∃ oc od osl kV doc pm an ct, K.lookup (He.fAd K d.at_) = some ⟨oc, od, .func (PySem.W.fnOf d.name d.qual d.params d.body d.scope .none kV doc pm an (cdV K (He.fAd K d.at_)) ct), osl⟩ := by
  unfold fnO at e
  unfold cdV
  cases q : K.lookup (He.fAd K d.at_) with
  | none => rw [q] at e; cases e
  | some o =>
    obtain ⟨oc, od, dt, osl⟩ := o
    rw [q] at e
    cases dt with
    | func fd =>
      obtain ⟨n1, n2, n3, n4, n5, n6, n7, n8, n9, n10, n11, n12, n13, n14, n15⟩ := fd
      have e2 : (some (n1, n2, n3, n4, n5, n6, n7.map (·.1), n8, n15) : FnV) = some (d.name, d.qual, d.params, .stmts d.body, d.scope, mainGlobals, d.clo, .none, builtinsNs) := e
      simp only [Option.some.injEq, Prod.mk.injEq] at e2
      obtain ⟨h1, h2, h3, h4, h5, h6, h7, h8, h9⟩ := e2
      rw [hc] at h7
      have h7' : n7 = [] := by cases n7 with
        | nil => rfl
        | cons a b => cases h7
      subst h1 h2 h3 h4 h5 h6 h7' h8 h9
      exact ⟨oc, od, osl, n9, n10, n11, n12, n14, rfl⟩
    | _ => cases e
def decB {α : Type} [DecidableEq α] (a b : α) : Bool := decide (a = b)
theorem zyj {α : Type} [DecidableEq α] {a b : α} (h : decB a b = true) : a = b := of_decide_eq_true h
def intB (K : PySem.W.Frag) (x : Str) (i : Int) : Bool := match PySem.W.nsIn K mainGlobals x with
  | some (some (.int j _)) => decide (j = i)
  | _ => false
theorem zls {K : PySem.W.Frag} {x : Str} {i : Int} (h : intB K x i = true) : ∃ t, PySem.W.nsIn K mainGlobals x = some (some (.int i t)) := by
  unfold intB at h
  split at h
  · rename_i j t e
    have := of_decide_eq_true h
    subst this
    exact ⟨t, e⟩
  · cases h
/-- a module's tuple -/
def seqB (K : PySem.W.Frag) (x : Str) (ok : List Value → Bool) : Bool := match K.lookup (He.ga K x) with
  | some ⟨.type c, _, .seq its _, _⟩ => decide (c = "tuple") && (ok its.toList && decide (its.size ≤ sizeLine))
  | _ => false
theorem z2k {K : PySem.W.Frag} {x : Str} {ok : List Value → Bool} (h : seqB K x ok = true) :
    ∃ (od : Option Addr) (its : Array Value) (n : Nat) (sl : Array (Option Value)), K.lookup (He.ga K x) = some ⟨.type "tuple", od, .seq its n, sl⟩ ∧ ok its.toList = true ∧ its.size ≤ sizeLine := by
  unfold seqB at h
  split at h
  · rename_i c od its n sl e
    obtain ⟨h1, h2⟩ := He.ba h
    obtain ⟨h2, h3⟩ := He.ba h2
    have := of_decide_eq_true h1
    subst this
    exact ⟨od, its, n, sl, e, h2, of_decide_eq_true h3⟩
  · cases h
abbrev Fs : Type := List (PySem.W.Frag → Bool)
abbrev Al : Type := Bool × List FnV
def obsB (fs : Fs) (fn : List DefB) (K : PySem.W.Frag) : Al := (fs.all fun f => f K, fn.map fun d => fnO K d.at_)
def valB (fn : List DefB) : Al := (true, fn.map DefB.val)
def z2j (fs : Fs) (fn : List DefB) (g : Addr → Option Obj) : Al := frL (He.frG g (asB g)) (obsB fs fn)
def zo0 (fs : Fs) (fn : List DefB) (K : PySem.W.Frag) : Prop := obsB fs fn K = valB fn
def zqx (fs : Fs) (fn : List DefB) : PySem.W.Hook where
  α := Al
  obs := fun s => z2j fs fn s.heap.get?
  val := fun _ => valB fn
  says := fun _ h => ∃ K : PySem.W.Frag, K.In h ∧ zo0 fs fn K
  of := fun _ _ e => ⟨_, He.frG_in, (zt9 _ _).symm.trans e⟩
  keeps := fun _ _ _ ⟨K, hK, c⟩ k => ⟨K, PySem.W.Frag.In.keeps hK k, c⟩
theorem zz2 {fs : Fs} {fn : List DefB} {g : Addr → Option Obj} {s : Shared} (h : ∀ a, g a = s.heap.get? a) : z2j fs fn g = (zqx fs fn).obs s := by
  have e : g = s.heap.get? := funext h
  rw [e] <;> rfl
theorem zo0.fact {fs : Fs} {fn : List DefB} {K : PySem.W.Frag} (c : zo0 fs fn K) (i : Nat) {f : PySem.W.Frag → Bool} (h : fs[i]? = some f) : f K = true :=
  List.all_eq_true.mp (show (fs.all fun f => f K) = true from congrArg (fun z : Al => z.1) c) f (List.mem_of_getElem? h)
theorem zo0.fn {fs : Fs} {fn : List DefB} {K : PySem.W.Frag} (c : zo0 fs fn K) (i : Nat) {d : DefB} (h : fn[i]? = some d) : fnO K d.at_ = d.val := by
  have e : fn.map (fun d => fnO K d.at_) = fn.map DefB.val := congrArg (fun z : Al => z.2) c
  have e2 : (fn.map fun d => fnO K d.at_)[i]? = (fn.map DefB.val)[i]? := by rw [e]
  rw [List.getElem?_map, List.getElem?_map, h] at e2
  exact Option.some.inj e2
theorem zo0.q {fs : Fs} {fn : List DefB} {K : PySem.W.Frag} {b : Bool} (c : zo0 fs fn K) (i : Nat) (h : (fs[i]?.map fun f => f K) = some b := by kernel_rfl) : b = true := by
  cases e : fs[i]? with
  | none => rw [e] at h; cases h
  | some f =>
    rw [e] at h
    rw [← Option.some.inj h]
    exact c.fact i e
theorem zo0.d {α : Type} [DecidableEq α] {fs : Fs} {fn : List DefB} {K : PySem.W.Frag} {x y : α} (c : zo0 fs fn K) (i : Nat) (h : (fs[i]?.map fun f => f K) = some (decB x y) := by kernel_rfl) : x = y := zyj (c.q i h)
theorem zo0.f {fs : Fs} {fn : List DefB} {K : PySem.W.Frag} (c : zo0 fs fn K) (d : DefB) (i : Nat) (hc : d.clo = [] := by rfl) (h : fn[i]? = some d := by kernel_rfl) :
    ∃ oc od osl kV doc pm an ct, K.lookup (He.fAd K d.at_) = some ⟨oc, od, .func (PySem.W.fnOf d.name d.qual d.params d.body d.scope .none kV doc pm an (cdV K (He.fAd K d.at_)) ct), osl⟩ := z48 hc (c.fn i h)
/-- the run, looked at piece by piece -/
def obB (fs : Fs) (fn : List DefB) (s : PySem.W.SharedT) : Al := z2j fs fn (HandSHeadRun.getT s)
theorem zza (fs : Fs) (fn : List DefB) (s : PySem.W.SharedT) : obB fs fn s = (zqx fs fn).obs s.abs := zz2 (HandSHeadRun.getT_eq s)
theorem zvt {r : PySem.W.OpenRow} {q : Program} {M : Nat} {loose : List Str} {w : World} {f1 f2 : Fs} {n1 n2 : List DefB} (h1 : HandSHeadRun.RunEq r q (zqx f1 n1) (obB f1 n1) M loose w) (h2 : HandSHeadRun.RunEq r q (zqx f2 n2) (obB f2 n2) M loose w) : HandSHeadRun.RunEq r q (zqx (f1 ++ f2) (n1 ++ n2)) (obB (f1 ++ f2) (n1 ++ n2)) M loose w := by
  intro os
  have a := h1 os
  have b := h2 os
  revert a b
  generalize HandSHeadRun.endF _ _ _ _ _ = e
  intro a b
  cases e with
  | none => cases a
  | some s =>
    have a := Option.some.inj a
    have b := Option.some.inj b
    injection a with a1 a2
    injection a2 with a2 a3
    injection b with _ b2
    injection b2 with _ b3
    have e1 : obsB f1 n1 (He.frG (HandSHeadRun.getT s) (asB (HandSHeadRun.getT s))) = valB n1 := (zt9 _ _).symm.trans a3
    have e2 : obsB f2 n2 (He.frG (HandSHeadRun.getT s) (asB (HandSHeadRun.getT s))) = valB n2 := (zt9 _ _).symm.trans b3
    have e3 : obB (f1 ++ f2) (n1 ++ n2) s = valB (n1 ++ n2) := by
      show frL _ _ = _
      rw [zt9]
      unfold obsB valB at e1 e2 ⊢
      injection e1 with p1 p2
      injection e2 with q1 q2
      rw [List.all_append, p1, q1, List.map_append, List.map_append, p2, q2]
      rfl
    exact congrArg some (Prod.ext a1 (Prod.ext a2 e3))
end HB
namespace DL
open PySem PySem.Spec PyProof.Rows L2
def zey : List Str → List Value → Bool
  | [], [] => true
  | x :: xs, .str y _ :: us => decide (x = y) && zey xs us
  | _, _ => false
end DL
namespace M
open PySem PySem.Spec PyProof.Rows L2 DL
def top (i : Nat) : Stmt := PySem.Challenge.pw_moonfall_k25_whole_as_told.main.body.getD i (.Pass ⟨0, 0, 0, 0⟩)
abbrev zc3 : Stmt := top 12
abbrev zc9 : Stmt := top 13
abbrev zaj : Stmt := inClass (top 15) 0
abbrev zah : Stmt := inClass (top 16) 0
abbrev zcu : Stmt := top 24
abbrev zcf : Stmt := top 25
abbrev zap : Stmt := inClass (top 26) 0
abbrev zj9 : Stmt := top 28
abbrev zal : Stmt := inClass (top 17) 0
abbrev zav : Stmt := inClass (top 15) 1
abbrev zad : Stmt := top 34
abbrev z9 : Stmt := inClass (top 35) 0
abbrev zbb : Stmt := top 37
abbrev zce : Stmt := top 38
abbrev zcc : Stmt := top 39
abbrev zj1 : Stmt := top 29
abbrev zkh : Stmt := top 27
abbrev zkg : Stmt := top 30
abbrev zj4 : Stmt := top 31
abbrev zaw : Stmt := inClass (top 17) 4
abbrev zbc : Stmt := inClass (top 16) 2
abbrev zau : Stmt := inClass (top 16) 1
abbrev zbs : Stmt := inClass (top 17) 1
abbrev zcd : Stmt := inClass (top 26) 2
abbrev za8 : Stmt := inClass (top 26) 1
abbrev zbq : Stmt := inClass (top 35) 2
abbrev za1 : Stmt := inClass (top 35) 1
abbrev zc7 : Stmt := top 49
abbrev zcb : Stmt := top 50
abbrev zkj : Stmt := top 51
def dB0 : HB.DefB := ⟨(("is_whole", none)), "is_whole", "is_whole", defArgs zc3, defBody zc3, defScope zc3, []⟩
def dB1 : HB.DefB := ⟨(("is_point", none)), "is_point", "is_point", defArgs zc9, defBody zc9, defScope zc9, []⟩
def dB2 : HB.DefB := ⟨(("Ground", some "__init__")), "__init__", "Ground.__init__", defArgs zaj, defBody zaj, defScope zaj, []⟩
def dB3 : HB.DefB := ⟨(("Camera", some "__init__")), "__init__", "Camera.__init__", defArgs zah, defBody zah, defScope zah, []⟩
def dB4 : HB.DefB := ⟨(("is_shift", none)), "is_shift", "is_shift", defArgs zcu, defBody zcu, defScope zcu, []⟩
def dB5 : HB.DefB := ⟨(("wrong_aim", none)), "wrong_aim", "wrong_aim", defArgs zcf, defBody zcf, defScope zcf, []⟩
def dB6 : HB.DefB := ⟨(("Deed", some "__init__")), "__init__", "Deed.__init__", defArgs zap, defBody zap, defScope zap, []⟩
def dB7 : HB.DefB := ⟨(("turn", none)), "turn", "turn", defArgs zj9, defBody zj9, defScope zj9, []⟩
def dB8 : HB.DefB := ⟨(("Sky", some "__init__")), "__init__", "Sky.__init__", defArgs zal, defBody zal, defScope zal, []⟩
def dB9 : HB.DefB := ⟨(("Ground", some "__eq__")), "__eq__", "Ground.__eq__", defArgs zav, defBody zav, defScope zav, []⟩
def dB10 : HB.DefB := ⟨(("have_one_ground", none)), "have_one_ground", "have_one_ground", defArgs zad, defBody zad, defScope zad, []⟩
def dB11 : HB.DefB := ⟨(("Craft", some "__init__")), "__init__", "Craft.__init__", defArgs z9, defBody z9, defScope z9, []⟩
def dB12 : HB.DefB := ⟨(("_law_number", none)), "_law_number", "_law_number", defArgs zbb, defBody zbb, defScope zbb, []⟩
def dB13 : HB.DefB := ⟨(("_law_take", none)), "_law_take", "_law_take", defArgs zce, defBody zce, defScope zce, []⟩
def dB14 : HB.DefB := ⟨(("_law_pick", none)), "_law_pick", "_law_pick", defArgs zcc, defBody zcc, defScope zcc, []⟩
def dB15 : HB.DefB := ⟨(("look", none)), "look", "look", defArgs zj1, defBody zj1, defScope zj1, []⟩
def dB16 : HB.DefB := ⟨(("step", none)), "step", "step", defArgs zkh, defBody zkh, defScope zkh, []⟩
def dB17 : HB.DefB := ⟨(("land", none)), "land", "land", defArgs zkg, defBody zkg, defScope zkg, []⟩
def dB18 : HB.DefB := ⟨(("away", none)), "away", "away", defArgs zj4, defBody zj4, defScope zj4, []⟩
def dB19 : HB.DefB := ⟨(("Sky", some "standings")), "standings", "Sky.standings", defArgs zaw, defBody zaw, defScope zaw, []⟩
def dB20 : HB.DefB := ⟨(("Camera", some "told")), "told", "Camera.told", defArgs zbc, defBody zbc, defScope zbc, []⟩
def dB21 : HB.DefB := ⟨(("Camera", some "__eq__")), "__eq__", "Camera.__eq__", defArgs zau, defBody zau, defScope zau, []⟩
def dB22 : HB.DefB := ⟨(("Sky", some "__eq__")), "__eq__", "Sky.__eq__", defArgs zbs, defBody zbs, defScope zbs, []⟩
def dB23 : HB.DefB := ⟨(("Deed", some "told")), "told", "Deed.told", defArgs zcd, defBody zcd, defScope zcd, []⟩
def dB24 : HB.DefB := ⟨(("Deed", some "__eq__")), "__eq__", "Deed.__eq__", defArgs za8, defBody za8, defScope za8, []⟩
def dB25 : HB.DefB := ⟨(("Craft", some "told")), "told", "Craft.told", defArgs zbq, defBody zbq, defScope zbq, []⟩
def dB26 : HB.DefB := ⟨(("Craft", some "__eq__")), "__eq__", "Craft.__eq__", defArgs za1, defBody za1, defScope za1, []⟩
def dB27 : HB.DefB := ⟨(("_law_raw", none)), "_law_raw", "_law_raw", defArgs zc7, defBody zc7, defScope zc7, []⟩
def dB28 : HB.DefB := ⟨(("_law_made", none)), "_law_made", "_law_made", defArgs zcb, defBody zcb, defScope zcb, []⟩
def dB29 : HB.DefB := ⟨(("law", none)), "law", "law", defArgs zkj, defBody zkj, defScope zkj, []⟩
def fsB0 : HB.Fs := [
  fun K => HB.seqB K "KINDS" (zey ["step", "turn", "look", "land", "away"]),
  fun K => HB.decB (PySem.W.nsIn K mainGlobals "KINDS") (some (some (.ref (He.ga K "KINDS")))),
  fun K => HB.decB (PySem.W.nsIn K mainGlobals "Ground") (some (some (.ref (He.ga K "Ground")))),
  fun K => HB.decB (PySem.W.nsIn K mainGlobals "Camera") (some (some (.ref (He.ga K "Camera")))),
  fun K => HB.decB (PySem.W.nsIn K mainGlobals "Sky") (some (some (.ref (He.ga K "Sky")))),
  fun K => HB.decB (PySem.W.nsIn K mainGlobals "Deed") (some (some (.ref (He.ga K "Deed")))),
  fun K => HB.decB (PySem.W.nsIn K mainGlobals "Craft") (some (some (.ref (He.ga K "Craft")))),
  fun K => HB.decB (PySem.W.nsIn K mainGlobals "is_whole") (some (some (.ref (He.fAd K ("is_whole", none))))),
  fun K => PySem.W.codeIn K (HB.cdV K (He.fAd K ("is_whole", none))) "is_whole",
  fun K => PySem.W.keepIn K (.ref (He.fAd K ("is_whole", none))),
  fun K => HB.decB (PySem.W.nsIn K mainGlobals "is_point") (some (some (.ref (He.fAd K ("is_point", none))))),
  fun K => PySem.W.codeIn K (HB.cdV K (He.fAd K ("is_point", none))) "is_point",
  fun K => PySem.W.keepIn K (.ref (He.fAd K ("is_point", none))),
  fun K => HB.decB (PySem.W.findIn K (.ref (He.ga K "Ground")) "__init__") (some (some (.ref (He.fAd K ("Ground", some "__init__"))))),
  fun K => PySem.W.isFn K (.ref (He.fAd K ("Ground", some "__init__"))),
  fun K => PySem.W.codeIn K (HB.cdV K (He.fAd K ("Ground", some "__init__"))) "Ground.__init__",
  fun K => PySem.W.keepIn K (.ref (He.fAd K ("Ground", some "__init__"))),
  fun K => HB.decB (PySem.W.findIn K (.ref (He.ga K "Camera")) "__init__") (some (some (.ref (He.fAd K ("Camera", some "__init__"))))),
  fun K => PySem.W.isFn K (.ref (He.fAd K ("Camera", some "__init__"))),
  fun K => PySem.W.codeIn K (HB.cdV K (He.fAd K ("Camera", some "__init__"))) "Camera.__init__",
  fun K => PySem.W.keepIn K (.ref (He.fAd K ("Camera", some "__init__"))),
  fun K => HB.decB (PySem.W.nsIn K mainGlobals "is_shift") (some (some (.ref (He.fAd K ("is_shift", none))))),
  fun K => PySem.W.codeIn K (HB.cdV K (He.fAd K ("is_shift", none))) "is_shift",
  fun K => PySem.W.keepIn K (.ref (He.fAd K ("is_shift", none))),
  fun K => HB.decB (PySem.W.nsIn K mainGlobals "wrong_aim") (some (some (.ref (He.fAd K ("wrong_aim", none))))),
  fun K => PySem.W.codeIn K (HB.cdV K (He.fAd K ("wrong_aim", none))) "wrong_aim",
  fun K => PySem.W.keepIn K (.ref (He.fAd K ("wrong_aim", none))),
  fun K => HB.decB (PySem.W.findIn K (.ref (He.ga K "Deed")) "__init__") (some (some (.ref (He.fAd K ("Deed", some "__init__"))))),
  fun K => PySem.W.isFn K (.ref (He.fAd K ("Deed", some "__init__"))),
  fun K => PySem.W.codeIn K (HB.cdV K (He.fAd K ("Deed", some "__init__"))) "Deed.__init__"]
def fsB1 : HB.Fs := [
  fun K => PySem.W.keepIn K (.ref (He.fAd K ("Deed", some "__init__"))),
  fun K => HB.decB (PySem.W.nsIn K mainGlobals "turn") (some (some (.ref (He.fAd K ("turn", none))))),
  fun K => PySem.W.codeIn K (HB.cdV K (He.fAd K ("turn", none))) "turn",
  fun K => PySem.W.keepIn K (.ref (He.fAd K ("turn", none))),
  fun K => HB.decB (PySem.W.findIn K (.ref (He.ga K "Sky")) "__init__") (some (some (.ref (He.fAd K ("Sky", some "__init__"))))),
  fun K => PySem.W.isFn K (.ref (He.fAd K ("Sky", some "__init__"))),
  fun K => PySem.W.codeIn K (HB.cdV K (He.fAd K ("Sky", some "__init__"))) "Sky.__init__",
  fun K => PySem.W.keepIn K (.ref (He.fAd K ("Sky", some "__init__"))),
  fun K => HB.decB (PySem.W.findIn K (.ref (He.ga K "Ground")) "__eq__") (some (some (.ref (He.fAd K ("Ground", some "__eq__"))))),
  fun K => PySem.W.isFn K (.ref (He.fAd K ("Ground", some "__eq__"))),
  fun K => PySem.W.codeIn K (HB.cdV K (He.fAd K ("Ground", some "__eq__"))) "Ground.__eq__",
  fun K => PySem.W.keepIn K (.ref (He.fAd K ("Ground", some "__eq__"))),
  fun K => HB.decB (PySem.W.nsIn K mainGlobals "have_one_ground") (some (some (.ref (He.fAd K ("have_one_ground", none))))),
  fun K => PySem.W.codeIn K (HB.cdV K (He.fAd K ("have_one_ground", none))) "have_one_ground",
  fun K => PySem.W.keepIn K (.ref (He.fAd K ("have_one_ground", none))),
  fun K => HB.decB (PySem.W.findIn K (.ref (He.ga K "Craft")) "__init__") (some (some (.ref (He.fAd K ("Craft", some "__init__"))))),
  fun K => PySem.W.isFn K (.ref (He.fAd K ("Craft", some "__init__"))),
  fun K => PySem.W.codeIn K (HB.cdV K (He.fAd K ("Craft", some "__init__"))) "Craft.__init__",
  fun K => PySem.W.keepIn K (.ref (He.fAd K ("Craft", some "__init__"))),
  fun K => HB.decB (PySem.W.nsIn K mainGlobals "_law_number") (some (some (.ref (He.fAd K ("_law_number", none))))),
  fun K => PySem.W.codeIn K (HB.cdV K (He.fAd K ("_law_number", none))) "_law_number",
  fun K => PySem.W.keepIn K (.ref (He.fAd K ("_law_number", none))),
  fun K => HB.decB (PySem.W.nsIn K mainGlobals "_law_take") (some (some (.ref (He.fAd K ("_law_take", none))))),
  fun K => PySem.W.codeIn K (HB.cdV K (He.fAd K ("_law_take", none))) "_law_take",
  fun K => PySem.W.keepIn K (.ref (He.fAd K ("_law_take", none))),
  fun K => HB.decB (PySem.W.nsIn K mainGlobals "_law_pick") (some (some (.ref (He.fAd K ("_law_pick", none))))),
  fun K => PySem.W.codeIn K (HB.cdV K (He.fAd K ("_law_pick", none))) "_law_pick",
  fun K => PySem.W.keepIn K (.ref (He.fAd K ("_law_pick", none))),
  fun K => HB.decB (PySem.W.nsIn K mainGlobals "look") (some (some (.ref (He.fAd K ("look", none))))),
  fun K => PySem.W.codeIn K (HB.cdV K (He.fAd K ("look", none))) "look"]
def fsB2 : HB.Fs := [
  fun K => PySem.W.keepIn K (.ref (He.fAd K ("look", none))),
  fun K => HB.decB (PySem.W.nsIn K mainGlobals "step") (some (some (.ref (He.fAd K ("step", none))))),
  fun K => PySem.W.codeIn K (HB.cdV K (He.fAd K ("step", none))) "step",
  fun K => PySem.W.keepIn K (.ref (He.fAd K ("step", none))),
  fun K => HB.decB (PySem.W.nsIn K mainGlobals "land") (some (some (.ref (He.fAd K ("land", none))))),
  fun K => PySem.W.codeIn K (HB.cdV K (He.fAd K ("land", none))) "land",
  fun K => PySem.W.keepIn K (.ref (He.fAd K ("land", none))),
  fun K => HB.decB (PySem.W.nsIn K mainGlobals "away") (some (some (.ref (He.fAd K ("away", none))))),
  fun K => PySem.W.codeIn K (HB.cdV K (He.fAd K ("away", none))) "away",
  fun K => PySem.W.keepIn K (.ref (He.fAd K ("away", none))),
  fun K => HB.decB (PySem.W.findIn K (.ref (He.ga K "Sky")) "standings") (some (some (.ref (He.fAd K ("Sky", some "standings"))))),
  fun K => PySem.W.isFn K (.ref (He.fAd K ("Sky", some "standings"))),
  fun K => PySem.W.codeIn K (HB.cdV K (He.fAd K ("Sky", some "standings"))) "Sky.standings",
  fun K => PySem.W.keepIn K (.ref (He.fAd K ("Sky", some "standings"))),
  fun K => HB.decB (PySem.W.findIn K (.ref (He.ga K "Camera")) "told") (some (some (.ref (He.fAd K ("Camera", some "told"))))),
  fun K => PySem.W.isFn K (.ref (He.fAd K ("Camera", some "told"))),
  fun K => PySem.W.codeIn K (HB.cdV K (He.fAd K ("Camera", some "told"))) "Camera.told",
  fun K => PySem.W.keepIn K (.ref (He.fAd K ("Camera", some "told"))),
  fun K => HB.decB (PySem.W.findIn K (.ref (He.ga K "Camera")) "__eq__") (some (some (.ref (He.fAd K ("Camera", some "__eq__"))))),
  fun K => PySem.W.isFn K (.ref (He.fAd K ("Camera", some "__eq__"))),
  fun K => PySem.W.codeIn K (HB.cdV K (He.fAd K ("Camera", some "__eq__"))) "Camera.__eq__",
  fun K => PySem.W.keepIn K (.ref (He.fAd K ("Camera", some "__eq__"))),
  fun K => HB.decB (PySem.W.findIn K (.ref (He.ga K "Sky")) "__eq__") (some (some (.ref (He.fAd K ("Sky", some "__eq__"))))),
  fun K => PySem.W.isFn K (.ref (He.fAd K ("Sky", some "__eq__"))),
  fun K => PySem.W.codeIn K (HB.cdV K (He.fAd K ("Sky", some "__eq__"))) "Sky.__eq__",
  fun K => PySem.W.keepIn K (.ref (He.fAd K ("Sky", some "__eq__"))),
  fun K => HB.decB (PySem.W.findIn K (.ref (He.ga K "Deed")) "told") (some (some (.ref (He.fAd K ("Deed", some "told"))))),
  fun K => PySem.W.isFn K (.ref (He.fAd K ("Deed", some "told"))),
  fun K => PySem.W.codeIn K (HB.cdV K (He.fAd K ("Deed", some "told"))) "Deed.told",
  fun K => PySem.W.keepIn K (.ref (He.fAd K ("Deed", some "told")))]
def fsB3 : HB.Fs := [
  fun K => HB.decB (PySem.W.findIn K (.ref (He.ga K "Deed")) "__eq__") (some (some (.ref (He.fAd K ("Deed", some "__eq__"))))),
  fun K => PySem.W.isFn K (.ref (He.fAd K ("Deed", some "__eq__"))),
  fun K => PySem.W.codeIn K (HB.cdV K (He.fAd K ("Deed", some "__eq__"))) "Deed.__eq__",
  fun K => PySem.W.keepIn K (.ref (He.fAd K ("Deed", some "__eq__"))),
  fun K => HB.decB (PySem.W.findIn K (.ref (He.ga K "Craft")) "told") (some (some (.ref (He.fAd K ("Craft", some "told"))))),
  fun K => PySem.W.isFn K (.ref (He.fAd K ("Craft", some "told"))),
  fun K => PySem.W.codeIn K (HB.cdV K (He.fAd K ("Craft", some "told"))) "Craft.told",
  fun K => PySem.W.keepIn K (.ref (He.fAd K ("Craft", some "told"))),
  fun K => HB.decB (PySem.W.findIn K (.ref (He.ga K "Craft")) "__eq__") (some (some (.ref (He.fAd K ("Craft", some "__eq__"))))),
  fun K => PySem.W.isFn K (.ref (He.fAd K ("Craft", some "__eq__"))),
  fun K => PySem.W.codeIn K (HB.cdV K (He.fAd K ("Craft", some "__eq__"))) "Craft.__eq__",
  fun K => PySem.W.keepIn K (.ref (He.fAd K ("Craft", some "__eq__"))),
  fun K => HB.decB (PySem.W.nsIn K mainGlobals "_law_raw") (some (some (.ref (He.fAd K ("_law_raw", none))))),
  fun K => PySem.W.codeIn K (HB.cdV K (He.fAd K ("_law_raw", none))) "_law_raw",
  fun K => PySem.W.keepIn K (.ref (He.fAd K ("_law_raw", none))),
  fun K => HB.decB (PySem.W.nsIn K mainGlobals "_law_made") (some (some (.ref (He.fAd K ("_law_made", none))))),
  fun K => PySem.W.codeIn K (HB.cdV K (He.fAd K ("_law_made", none))) "_law_made",
  fun K => PySem.W.keepIn K (.ref (He.fAd K ("_law_made", none))),
  fun K => HB.decB (PySem.W.nsIn K mainGlobals "law") (some (some (.ref (He.fAd K ("law", none))))),
  fun K => PySem.W.codeIn K (HB.cdV K (He.fAd K ("law", none))) "law",
  fun K => PySem.W.keepIn K (.ref (He.fAd K ("law", none))),
  fun K => PySem.W.plainGet K (He.ga K "Ground") Str.empty,
  fun K => PySem.W.hasDictIn K (He.ga K "Ground"),
  fun K => PySem.W.plainOver K (He.ga K "Ground"),
  fun K => HB.decB (PySem.W.findIn K (.ref (He.ga K "Ground")) "__setattr__") (some (some (.builtin "object.__setattr__"))),
  fun K => HB.decB (PySem.W.findIn K (.ref (He.ga K "Ground")) "__class__") (some (some (.builtin "object.__class__"))),
  fun K => HB.decB (PySem.W.mroIn K (He.ga K "Ground") (.type "object")) (some true),
  fun K => PySem.W.makesIn K (He.ga K "Ground"),
  fun K => PySem.W.keepIn K (.ref (He.ga K "Ground")),
  fun K => PySem.W.plainGet K (He.ga K "Camera") Str.empty]
def fsB4 : HB.Fs := [
  fun K => PySem.W.hasDictIn K (He.ga K "Camera"),
  fun K => PySem.W.plainOver K (He.ga K "Camera"),
  fun K => HB.decB (PySem.W.findIn K (.ref (He.ga K "Camera")) "__setattr__") (some (some (.builtin "object.__setattr__"))),
  fun K => HB.decB (PySem.W.findIn K (.ref (He.ga K "Camera")) "__class__") (some (some (.builtin "object.__class__"))),
  fun K => HB.decB (PySem.W.mroIn K (He.ga K "Camera") (.type "object")) (some true),
  fun K => PySem.W.makesIn K (He.ga K "Camera"),
  fun K => PySem.W.keepIn K (.ref (He.ga K "Camera")),
  fun K => PySem.W.plainGet K (He.ga K "Sky") Str.empty,
  fun K => PySem.W.hasDictIn K (He.ga K "Sky"),
  fun K => PySem.W.plainOver K (He.ga K "Sky"),
  fun K => HB.decB (PySem.W.findIn K (.ref (He.ga K "Sky")) "__setattr__") (some (some (.builtin "object.__setattr__"))),
  fun K => HB.decB (PySem.W.findIn K (.ref (He.ga K "Sky")) "__class__") (some (some (.builtin "object.__class__"))),
  fun K => HB.decB (PySem.W.mroIn K (He.ga K "Sky") (.type "object")) (some true),
  fun K => PySem.W.makesIn K (He.ga K "Sky"),
  fun K => PySem.W.keepIn K (.ref (He.ga K "Sky")),
  fun K => PySem.W.plainGet K (He.ga K "Deed") Str.empty,
  fun K => PySem.W.hasDictIn K (He.ga K "Deed"),
  fun K => PySem.W.plainOver K (He.ga K "Deed"),
  fun K => HB.decB (PySem.W.findIn K (.ref (He.ga K "Deed")) "__setattr__") (some (some (.builtin "object.__setattr__"))),
  fun K => HB.decB (PySem.W.findIn K (.ref (He.ga K "Deed")) "__class__") (some (some (.builtin "object.__class__"))),
  fun K => HB.decB (PySem.W.mroIn K (He.ga K "Deed") (.type "object")) (some true),
  fun K => PySem.W.makesIn K (He.ga K "Deed"),
  fun K => PySem.W.keepIn K (.ref (He.ga K "Deed")),
  fun K => PySem.W.plainGet K (He.ga K "Craft") Str.empty,
  fun K => PySem.W.hasDictIn K (He.ga K "Craft"),
  fun K => PySem.W.plainOver K (He.ga K "Craft"),
  fun K => HB.decB (PySem.W.findIn K (.ref (He.ga K "Craft")) "__setattr__") (some (some (.builtin "object.__setattr__"))),
  fun K => HB.decB (PySem.W.findIn K (.ref (He.ga K "Craft")) "__class__") (some (some (.builtin "object.__class__"))),
  fun K => HB.decB (PySem.W.mroIn K (He.ga K "Craft") (.type "object")) (some true),
  fun K => PySem.W.makesIn K (He.ga K "Craft")]
def fsB5 : HB.Fs := [
  fun K => PySem.W.keepIn K (.ref (He.ga K "Craft")),
  fun K => HB.decB (PySem.W.specialIn K (.builtin "object.__class__") "__get__") (some (some (.builtin "getset_descriptor.__get__"))),
  fun K => HB.decB (PySem.W.takesIn K (.builtin "object.__class__")) (some true),
  fun K => HB.decB (PySem.W.findIn K (.ref (He.ga K "Camera")) "__ne__") (some (some (.builtin "object.__ne__"))),
  fun K => HB.decB (PySem.W.findIn K (.ref (He.ga K "Ground")) "__ne__") (some (some (.builtin "object.__ne__"))),
  fun K => HB.decB (PySem.W.findIn K (.ref (He.ga K "Deed")) "__ne__") (some (some (.builtin "object.__ne__"))),
  fun K => HB.decB (PySem.W.findIn K (.ref (He.ga K "Craft")) "__ne__") (some (some (.builtin "object.__ne__"))),
  fun K => HB.decB (PySem.W.findIn K (.ref (He.ga K "Ground")) "craters") (some none),
  fun K => HB.decB (PySem.W.findIn K (.ref (He.ga K "Camera")) "width") (some none),
  fun K => HB.decB (PySem.W.findIn K (.ref (He.ga K "Camera")) "height") (some none),
  fun K => HB.decB (PySem.W.findIn K (.ref (He.ga K "Camera")) "error") (some none),
  fun K => HB.decB (PySem.W.findIn K (.ref (He.ga K "Camera")) "false") (some none),
  fun K => HB.decB (PySem.W.findIn K (.ref (He.ga K "Camera")) "lost") (some none),
  fun K => HB.decB (PySem.W.findIn K (.ref (He.ga K "Deed")) "kind") (some none),
  fun K => HB.decB (PySem.W.findIn K (.ref (He.ga K "Deed")) "fuel") (some none),
  fun K => HB.decB (PySem.W.findIn K (.ref (He.ga K "Deed")) "aim") (some none),
  fun K => HB.decB (PySem.W.findIn K (.ref (He.ga K "Deed")) "slips") (some none),
  fun K => HB.decB (PySem.W.findIn K (.ref (He.ga K "Sky")) "ground") (some none),
  fun K => HB.decB (PySem.W.findIn K (.ref (He.ga K "Sky")) "camera") (some none),
  fun K => HB.decB (PySem.W.findIn K (.ref (He.ga K "Sky")) "turns") (some none),
  fun K => HB.decB (PySem.W.findIn K (.ref (He.ga K "Sky")) "area") (some none),
  fun K => HB.decB (PySem.W.findIn K (.ref (He.ga K "Craft")) "skies") (some none),
  fun K => HB.decB (PySem.W.findIn K (.ref (He.ga K "Craft")) "foot") (some none),
  fun K => HB.decB (PySem.W.findIn K (.ref (He.ga K "Craft")) "room") (some none),
  fun K => HB.decB (PySem.W.findIn K (.ref (He.ga K "Craft")) "deeds") (some none),
  fun K => HB.decB (PySem.W.nsIn K mainGlobals "bool") (some none),
  fun K => HB.decB (PySem.W.nsIn K mainGlobals "isinstance") (some none),
  fun K => HB.decB (PySem.W.nsIn K mainGlobals "int") (some none),
  fun K => HB.decB (PySem.W.nsIn K mainGlobals "len") (some none),
  fun K => HB.decB (PySem.W.nsIn K mainGlobals "tuple") (some none)]
def fsB6 : HB.Fs := [
  fun K => HB.decB (PySem.W.nsIn K mainGlobals "enumerate") (some none),
  fun K => HB.decB (PySem.W.nsIn K mainGlobals "sorted") (some none),
  fun K => HB.decB (PySem.W.nsIn K mainGlobals "all") (some none),
  fun K => HB.decB (PySem.W.nsIn K mainGlobals "set") (some none),
  fun K => HB.decB (PySem.W.nsIn K mainGlobals "zip") (some none),
  fun K => HB.decB (PySem.W.nsIn K mainGlobals "any") (some none),
  fun K => HB.decB (PySem.W.nsIn K mainGlobals "range") (some none),
  fun K => HB.intB K "MOST_SIZE" 99,
  fun K => HB.intB K "MOST_PLACE" 1000000,
  fun K => HB.intB K "MOST_COUNT" 100,
  fun K => HB.intB K "MOST_SIDE" 1000,
  fun K => HB.intB K "MOST" 1000,
  fun K => HB.intB K "MOST_STANDINGS" 40000,
  fun K => HB.intB K "MOST_ROOM" 1000]
def fpB0 : HB.Fs := fsB0
def fpB1 : HB.Fs := fsB1 ++ (fsB2)
def fpB2 : HB.Fs := fsB3 ++ (fsB4)
def fpB3 : HB.Fs := fsB5 ++ (fsB6)
def fnB0 : List HB.DefB := [dB0, dB1, dB2, dB3, dB4, dB5, dB6]
def fnB1 : List HB.DefB := [dB7, dB8, dB9, dB10, dB11, dB12, dB13, dB14]
def fnB2 : List HB.DefB := [dB15, dB16, dB17, dB18, dB19, dB20, dB21]
def fnB3 : List HB.DefB := [dB22, dB23, dB24, dB25, dB26, dB27, dB28, dB29]
def fsB : HB.Fs := fpB0 ++ (fpB1 ++ (fpB2 ++ (fpB3)))
def fnB : List HB.DefB := fnB0 ++ (fnB1 ++ (fnB2 ++ (fnB3)))
def zq5 : List Str := (["_wall", "__name__", "MoonError", "BadGround", "BadCamera", "BadSky", "MOST_PLACE", "MOST_SIZE", "MOST_SIDE", "MOST_COUNT", "MOST_STANDINGS", "is_whole", "is_point", "turned", "Ground", "Camera", "Sky", "BadDeed", "BadCraft", "KINDS", "MOST", "is_shift", "wrong_aim", "Deed", "step"] : List Str) ++ ((["turn", "look", "land", "away", "MOST_ROOM", "have_one_ground", "Craft", "_law_number", "_law_take", "_law_pick", "_law_view", "_law_fits", "_law_pictures", "_law_answers", "_law_ends", "_law_whole", "_law_sets", "_law_sure", "_law_good", "_law_raw", "_law_made"] : List Str))
abbrev hkB : PySem.W.Hook := HB.zqx fsB fnB
abbrev obB : PySem.W.SharedT → HB.Al := HB.obB fsB fnB
theorem zza (s : PySem.W.SharedT) : obB s = hkB.obs s.abs := HB.zza fsB fnB s
theorem z47 (w : World) : HandSHeadRun.RunEq (PySem.W.OpenLaw.row PySem.Challenge.rw_moonfall_k25_whole_as_told) (PySem.W.view (PySem.W.OpenLaw.row PySem.Challenge.rw_moonfall_k25_whole_as_told).prog [51]) (HB.zqx fpB0 fnB0) (HB.obB fpB0 fnB0) 20000 zq5 w := by
  intro os
  kernel_rfl
theorem z5e (w : World) : HandSHeadRun.RunEq (PySem.W.OpenLaw.row PySem.Challenge.rw_moonfall_k25_whole_as_told) (PySem.W.view (PySem.W.OpenLaw.row PySem.Challenge.rw_moonfall_k25_whole_as_told).prog [51]) (HB.zqx fpB1 fnB1) (HB.obB fpB1 fnB1) 20000 zq5 w := by
  intro os
  kernel_rfl
theorem z44 (w : World) : HandSHeadRun.RunEq (PySem.W.OpenLaw.row PySem.Challenge.rw_moonfall_k25_whole_as_told) (PySem.W.view (PySem.W.OpenLaw.row PySem.Challenge.rw_moonfall_k25_whole_as_told).prog [51]) (HB.zqx fpB2 fnB2) (HB.obB fpB2 fnB2) 20000 zq5 w := by
  intro os
  kernel_rfl
theorem z5c (w : World) : HandSHeadRun.RunEq (PySem.W.OpenLaw.row PySem.Challenge.rw_moonfall_k25_whole_as_told) (PySem.W.view (PySem.W.OpenLaw.row PySem.Challenge.rw_moonfall_k25_whole_as_told).prog [51]) (HB.zqx fpB3 fnB3) (HB.obB fpB3 fnB3) 20000 zq5 w := by
  intro os
  kernel_rfl
theorem runB (w : World) : HandSHeadRun.RunEq (PySem.W.OpenLaw.row PySem.Challenge.rw_moonfall_k25_whole_as_told) (PySem.W.view (PySem.W.OpenLaw.row PySem.Challenge.rw_moonfall_k25_whole_as_told).prog [51]) hkB obB 20000 zq5 w :=
  HB.zvt (z47 w) (HB.zvt (z5e w) (HB.zvt (z44 w) (z5c w)))
end M
namespace DL
open PySem PySem.Spec PyProof.Rows L2
inductive Kd where
  | tup | lst | scr | ins (C : Addr) (fs : List Str) | dK (ks : List Key) | dN (ks : List NestedKey)
/-- a value as a tree; ref: an object that is tracked by its address (or one of the text) -/
inductive D where
  | non | bl (b : Bool) | int (i : Int) | str (x : Str) | ty (n : String) | ref (a : Addr)
  | nd (k : Kd) (ds : List D)
abbrev D.tup (ds : List D) : D := .nd .tup ds
abbrev D.lst (ds : List D) : D := .nd .lst ds
/-- what may change: it is held by its address -/
inductive DO where
  | lst (ds : List D) | dK (kvs : List (Key × D)) | dN (kvs : List (NestedKey × D)) | ins (C : Addr) (fs : List (Str × D)) | rw (es : Array DictEntry) (ep : Nat) (kvs : List (NestedKey × D))
abbrev DHp := Addr → Option DO
def up (G : DHp) (a : Addr) (o : DO) : DHp := fun b => if b = a then some o else G b
def dl (G : DHp) (a : Addr) : DHp := fun b => if b = a then none else G b
theorem zt {G : DHp} {a : Addr} {o : DO} : up G a o a = some o := by unfold up; rw [if_pos rfl]
theorem zvr {G : DHp} {a b : Addr} {o : DO} (h : b ≠ a) : up G a o b = G b := by unfold up; rw [if_neg h]
theorem zlu {G : DHp} {a : Addr} : dl G a a = none := by unfold dl; rw [if_pos rfl]
theorem zz0 {G : DHp} {a b : Addr} (h : b ≠ a) : dl G a b = G b := by unfold dl; rw [if_neg h]
theorem ze5 {G : DHp} {a : Addr} {o u : DO} : up (up G a o) a u = up G a u := by funext b; unfold up; split <;> rfl
theorem ze1 {G : DHp} {a : Addr} {o : DO} (h : G a = none) : dl (up G a o) a = G := by
  funext b
  unfold dl up
  by_cases e : b = a
  · subst e; rw [if_pos rfl, h]
  · rw [if_neg e, if_neg e]
theorem zvj {G : DHp} {a b : Addr} {o u : DO} (h : a ≠ b) : up (up G a o) b u = up (up G b u) a o := by
  funext c; simp only [up]
  by_cases e : c = a
  · subst e; simp [h]
  · simp [e]
theorem zz3 {G : DHp} {a b : Addr} {o : DO} (h : a ≠ b) : dl (up G a o) b = up (dl G b) a o := by
  funext c; simp only [up, dl]
  by_cases e : c = a
  · subst e; simp [h]
  · simp [e]
/-- what is fixed: the written part, the world -/
structure Ml where
  K : PySem.W.Frag
  w : World
abbrev _root_.L2.Cx.ml (X : Cx) : Ml := ⟨X.K, X.w⟩
mutual
def D.key : D → Option NestedKey
  | .non => some .none
  | .int i => some (.num i)
  | .str x => some (.text x)
  | .nd .tup ds => (D.keys ds).map .tup
  | _ => none
def D.keys : List D → Option (List NestedKey)
  | [] => some []
  | d :: ds => match D.key d, D.keys ds with
    | some k, some ks => some (k :: ks)
    | _, _ => none
end
/-- an entry of a dict with nested keys -/
def entN (w : World) (x : NestedKey × Addr × Value) : DictEntry := ⟨x.1.hash w, .ref x.2.1, x.2.2⟩
/-- the object at a is a dict with just these entries -/
def rawO (a : Addr) (es : Array DictEntry) (ep : Nat) : HO := .ext fun h => h.DictRaw a es ep
section
variable (K : Ml) (H : Hp) (G : DHp)
mutual
def zgn : NestedKey → V → Prop
  | .none, v => v = .non
  | .num i, v => v = .int i
  | .text x, v => v = .str x
  | .tup ks, v => ∃ a vs, v = .ref a ∧ SqT K.K H a vs ∧ KeysAt ks vs
def KeysAt : List NestedKey → List V → Prop
  | [], vs => vs = []
  | k :: ks, vs => ∃ v r, vs = v :: r ∧ zgn k v ∧ KeysAt ks r
end
/-- a dict with nested keys ks and values vs at a -/
def DnAt (a : Addr) (ks : List NestedKey) (vs : List V) : Prop :=
  ∃ (xs : List (NestedKey × Addr × Value)) (es : Array DictEntry) (ep : Nat), H a = some (rawO a es ep) ∧ (a == sysModules) = false ∧ es.toList = xs.map (entN K.w) ∧ xs.map (·.1) = ks ∧ ks.Nodup ∧ ks.length ≤ sizeLine ∧
    (∀ x ∈ xs, zgn K H x.1 (.ref x.2.1) ∧ x.1.depth ≤ 8) ∧ Vals vs (xs.map (·.2.2))
/-- the same, the entries told -/
def DnE (a : Addr) (es : Array DictEntry) (ep : Nat) (ks : List NestedKey) (vs : List V) : Prop :=
  ∃ (xs : List (NestedKey × Addr × Value)), H a = some (rawO a es ep) ∧ (a == sysModules) = false ∧ es.toList = xs.map (entN K.w) ∧ xs.map (·.1) = ks ∧ ks.Nodup ∧ ks.length ≤ sizeLine ∧
    (∀ x ∈ xs, zgn K H x.1 (.ref x.2.1) ∧ x.1.depth ≤ 8) ∧ Vals vs (xs.map (·.2.2))
/-- at a stands an object of the kind with the items vs -/
def Held : Kd → Addr → List V → Prop
  | .tup, a, vs => SqT K.K H a vs
  | .lst, a, vs => G a = none ∧ H a = some (.lst vs)
  | .scr, a, vs => (∃ o, H a = some (.frz o (.lst vs))) ∨
      ∃ (o : Obj) (its : Array Value) (n : Nat), K.K.lookup a = some o ∧ o.cls = .type "list" ∧ o.dict = none ∧ o.data = .seq its n ∧ its.size ≤ sizeLine ∧ Vals vs its.toList
  | .ins C fs, a, vs => G a = none ∧ fs.length = vs.length ∧ ∃ dx, H a = some (.ins C dx (fs.zip vs))
  | .dK ks, a, vs => ks.length = vs.length ∧ ∃ o, H a = some (.frz o (.dK (ks.zip vs)))
  | .dN ks, a, vs => G a = none ∧ DnAt K H a ks vs
mutual
def VR : D → V → Prop
  | .non, v => v = .non
  | .bl b, v => v = .bl b
  | .int i, v => v = .int i
  | .str x, v => v = .str x
  | .ty n, v => v = .ty n
  | .ref a, v => v = .ref a
  | .nd k ds, v => ∃ a vs, v = .ref a ∧ Held K H G k a vs ∧ VRs ds vs
def VRs : List D → List V → Prop
  | [], vs => vs = []
  | d :: ds, vs => ∃ v r, vs = v :: r ∧ VR d v ∧ VRs ds r
end
/-- a tracked object -/
def OR (a : Addr) : DO → Prop
  | .lst ds => ∃ vs, H a = some (.lst vs) ∧ VRs K H G ds vs
  | .dK kvs => ∃ ws, H a = some (.dK ws) ∧ ws.map (·.1) = kvs.map (·.1) ∧ VRs K H G (kvs.map (·.2)) (ws.map (·.2))
  | .dN kvs => ∃ ws, DnAt K H a (kvs.map (·.1)) ws ∧ VRs K H G (kvs.map (·.2)) ws
  | .ins C fs => ∃ dx ws, H a = some (.ins C dx ws) ∧ ws.map (·.1) = fs.map (·.1) ∧ VRs K H G (fs.map (·.2)) (ws.map (·.2))
  | .rw es ep kvs => ∃ ws, DnE K H a es ep (kvs.map (·.1)) ws ∧ VRs K H G (kvs.map (·.2)) ws
def HR : Prop := ∀ a o, G a = some o → OR K H G a o
end
structure Ext (H : Hp) (G : DHp) (H' : Hp) (G' : DHp) : Prop where
  ex : ∀ a u, H a = some u → G a = none → H' a = some u ∧ G' a = none
theorem Ext.refl (H : Hp) (G : DHp) : Ext H G H G := ⟨fun _ _ h n => ⟨h, n⟩⟩
theorem Ext.trans {H G H1 G1 H2 G2} (a : Ext H G H1 G1) (b : Ext H1 G1 H2 G2) : Ext H G H2 G2 :=
  ⟨fun c u h n => let ⟨h1, n1⟩ := a.ex c u h n; b.ex c u h1 n1⟩
section
variable {K : Ml} {H H' : Hp} {G G' : DHp}
theorem OR.not_tup {a : Addr} {o : DO} (h : OR K H G a o) {vs : List V} : ¬ Rd H a (.tup vs) := by
  intro r
  cases o with
  | lst ds =>
    obtain ⟨_, e, _⟩ := h
    rcases r with r | ⟨_, r⟩ <;> rw [e] at r <;> cases r
  | dK ds =>
    obtain ⟨_, e, _⟩ := h
    rcases r with r | ⟨_, r⟩ <;> rw [e] at r <;> cases r
  | dN ds =>
    obtain ⟨_, ⟨_, _, _, e, _⟩, _⟩ := h
    rcases r with r | ⟨_, r⟩ <;> rw [e] at r <;> cases r
  | ins C fs =>
    obtain ⟨_, _, e, _⟩ := h
    rcases r with r | ⟨_, r⟩ <;> rw [e] at r <;> cases r
  | rw es ep kvs =>
    obtain ⟨_, ⟨_, e, _⟩, _⟩ := h
    rcases r with r | ⟨_, r⟩ <;> rw [e] at r <;> cases r
theorem OR.not_frz {a : Addr} {o : DO} (h : OR K H G a o) {ob : Obj} {u : HO} : H a ≠ .some (.frz ob u) := by
  intro r
  cases o with
  | lst ds =>
    obtain ⟨_, e, _⟩ := h
    rw [e] at r; cases r
  | dK ds =>
    obtain ⟨_, e, _⟩ := h
    rw [e] at r; cases r
  | dN ds =>
    obtain ⟨_, ⟨_, _, _, e, _⟩, _⟩ := h
    rw [e] at r; cases r
  | ins C fs =>
    obtain ⟨_, _, e, _⟩ := h
    rw [e] at r; cases r
  | rw es ep kvs =>
    obtain ⟨_, ⟨_, e, _⟩, _⟩ := h
    rw [e] at r; cases r
theorem OR.some {a : Addr} {o : DO} (h : OR K H G a o) : ∃ u, H a = .some u := by
  cases o with
  | lst ds => obtain ⟨_, e, _⟩ := h; exact ⟨_, e⟩
  | dK ds => obtain ⟨_, e, _⟩ := h; exact ⟨_, e⟩
  | dN ds => obtain ⟨_, ⟨_, _, _, e, _⟩, _⟩ := h; exact ⟨_, e⟩
  | ins C fs => obtain ⟨_, _, e, _⟩ := h; exact ⟨_, e⟩
  | rw es ep kvs => obtain ⟨_, ⟨_, e, _⟩, _⟩ := h; exact ⟨_, e⟩
theorem HR.tup (h : HR K H G) {a : Addr} {vs : List V} (r : Rd H a (.tup vs)) : G a = none := by
  cases e : G a with
  | none => rfl
  | some o => exact absurd r (OR.not_tup (h a o e))
theorem HR.frz (h : HR K H G) {a : Addr} {ob : Obj} {u : HO} (r : H a = some (.frz ob u)) : G a = none := by
  cases e : G a with
  | none => rfl
  | some o => exact absurd r (OR.not_frz (h a o e))
theorem HR.free (h : HR K H G) {a : Addr} (r : H a = none) : G a = none := by
  cases e : G a with
  | none => rfl
  | some o => obtain ⟨u, q⟩ := OR.some (h a o e); rw [q] at r; cases r
mutual
theorem zgn.ext (hr : HR K H G) (x : Ext H G H' G') : ∀ {k : NestedKey} {v : V}, zgn K H k v → zgn K H' k v
  | .none, _, h => by rw [zgn] at h ⊢; exact h
  | .num _, _, h => by rw [zgn] at h ⊢; exact h
  | .text _, _, h => by rw [zgn] at h ⊢; exact h
  | .tup ks, _, h => by
    rw [zgn] at h ⊢
    obtain ⟨a, vs, e, q, r⟩ := h
    refine ⟨a, vs, e, ?_, KeysAt.ext hr x r⟩
    rcases q with (h | ⟨o, h⟩) | h
    · exact .inl (.inl (x.ex _ _ h (hr.tup (.inl h))).1)
    · exact .inl (.inr ⟨o, (x.ex _ _ h (hr.frz h)).1⟩)
    · exact .inr h
theorem KeysAt.ext (hr : HR K H G) (x : Ext H G H' G') : ∀ {k : List NestedKey} {v : List V}, KeysAt K H k v → KeysAt K H' k v
  | [], _, h => by rw [KeysAt] at h ⊢; exact h
  | k :: ks, _, h => by
    rw [KeysAt] at h ⊢
    obtain ⟨v, r, e, q, t⟩ := h
    exact ⟨v, r, e, zgn.ext hr x q, KeysAt.ext hr x t⟩
end
theorem DnAt.ext (hr : HR K H G) (x : Ext H G H' G') {a : Addr} {ks : List NestedKey} {vs : List V} (h : DnAt K H a ks vs) (e : H' a = H a) : DnAt K H' a ks vs := by
  obtain ⟨xs, es, ep, h1, h2, h3, h4, h5, h6, h7, h8⟩ := h
  exact ⟨xs, es, ep, e.trans h1, h2, h3, h4, h5, h6, fun y hy => ⟨(h7 y hy).1.ext hr x, (h7 y hy).2⟩, h8⟩
theorem DnE.ext (hr : HR K H G) (x : Ext H G H' G') {a : Addr} {es : Array DictEntry} {ep : Nat} {ks : List NestedKey} {vs : List V} (h : DnE K H a es ep ks vs) (e : H' a = H a) : DnE K H' a es ep ks vs := by
  obtain ⟨xs, h1, h2, h3, h4, h5, h6, h7, h8⟩ := h
  exact ⟨xs, e.trans h1, h2, h3, h4, h5, h6, fun y hy => ⟨(h7 y hy).1.ext hr x, (h7 y hy).2⟩, h8⟩
theorem DnE.at {a : Addr} {es : Array DictEntry} {ep : Nat} {ks : List NestedKey} {vs : List V} (h : DnE K H a es ep ks vs) : DnAt K H a ks vs := by
  obtain ⟨xs, h⟩ := h
  exact ⟨xs, es, ep, h⟩
theorem DnAt.e {a : Addr} {ks : List NestedKey} {vs : List V} (h : DnAt K H a ks vs) : ∃ es ep, DnE K H a es ep ks vs := by
  obtain ⟨xs, es, ep, h⟩ := h
  exact ⟨es, ep, xs, h⟩
theorem Held.ext (hr : HR K H G) (x : Ext H G H' G') {k : Kd} {a : Addr} {vs : List V} (h : Held K H G k a vs) : Held K H' G' k a vs := by
  cases k with
  | tup =>
    rcases h with (h | ⟨o, h⟩) | h
    · exact .inl (.inl (x.ex _ _ h (hr.tup (.inl h))).1)
    · exact .inl (.inr ⟨o, (x.ex _ _ h (hr.frz h)).1⟩)
    · exact .inr h
  | lst =>
    obtain ⟨n, r⟩ := h
    obtain ⟨r', n'⟩ := x.ex _ _ r n
    exact ⟨n', r'⟩
  | scr =>
    rcases h with ⟨o, h⟩ | h
    · exact .inl ⟨o, (x.ex _ _ h (hr.frz h)).1⟩
    · exact .inr h
  | ins C fs =>
    obtain ⟨n, l, dx, r⟩ := h
    obtain ⟨r', n'⟩ := x.ex _ _ r n
    exact ⟨n', l, dx, r'⟩
  | dK ks =>
    obtain ⟨l, o, r⟩ := h
    exact ⟨l, o, (x.ex _ _ r (hr.frz r)).1⟩
  | dN ks =>
    obtain ⟨n, r⟩ := h
    obtain ⟨xs, es, ep, h1, _⟩ := id r
    obtain ⟨e, n'⟩ := x.ex _ _ h1 n
    exact ⟨n', r.ext hr x (e.trans h1.symm)⟩
mutual
theorem VR.ext (hr : HR K H G) (x : Ext H G H' G') : ∀ {d : D} {v : V}, VR K H G d v → VR K H' G' d v
  | .non, _, h => by rw [VR] at h ⊢; exact h
  | .bl _, _, h => by rw [VR] at h ⊢; exact h
  | .int _, _, h => by rw [VR] at h ⊢; exact h
  | .str _, _, h => by rw [VR] at h ⊢; exact h
  | .ty _, _, h => by rw [VR] at h ⊢; exact h
  | .ref _, _, h => by rw [VR] at h ⊢; exact h
  | .nd k ds, _, h => by
    rw [VR] at h ⊢
    obtain ⟨a, vs, e, q, r⟩ := h
    exact ⟨a, vs, e, q.ext hr x, VRs.ext hr x r⟩
theorem VRs.ext (hr : HR K H G) (x : Ext H G H' G') : ∀ {ds : List D} {vs : List V}, VRs K H G ds vs → VRs K H' G' ds vs
  | [], _, h => by rw [VRs] at h ⊢; exact h
  | d :: ds, _, h => by
    rw [VRs] at h ⊢
    obtain ⟨v, r, e, q, t⟩ := h
    exact ⟨v, r, e, VR.ext hr x q, VRs.ext hr x t⟩
end
theorem VRs.nil : VRs K H G [] [] := by rw [VRs]
theorem VRs.cons {d : D} {ds : List D} {v : V} {vs : List V} (h : VR K H G d v) (t : VRs K H G ds vs) : VRs K H G (d :: ds) (v :: vs) := by
  rw [VRs]; exact ⟨v, vs, rfl, h, t⟩
theorem VRs.uncons {d : D} {ds : List D} {vs : List V} (h : VRs K H G (d :: ds) vs) : ∃ v r, vs = v :: r ∧ VR K H G d v ∧ VRs K H G ds r := by
  rw [VRs] at h; exact h
theorem VRs.nil_of {vs : List V} (h : VRs K H G [] vs) : vs = [] := by rw [VRs] at h; exact h
theorem VRs.length : ∀ {ds : List D} {vs : List V}, VRs K H G ds vs → vs.length = ds.length
  | [], _, h => by rw [h.nil_of]; rfl
  | d :: ds, _, h => by
    obtain ⟨v, r, rfl, _, t⟩ := h.uncons
    rw [List.length_cons, List.length_cons, VRs.length t]
theorem VRs.append : ∀ {ds es : List D} {vs ws : List V}, VRs K H G ds vs → VRs K H G es ws → VRs K H G (ds ++ es) (vs ++ ws)
  | [], _, _, _, h, q => by rw [h.nil_of]; exact q
  | d :: ds, _, _, _, h, q => by
    obtain ⟨v, r, rfl, x, t⟩ := h.uncons
    exact .cons x (VRs.append t q)
theorem VRs.get : ∀ {ds : List D} {vs : List V} {i : Nat} {d : D}, VRs K H G ds vs → ds[i]? = some d → ∃ v, vs[i]? = some v ∧ VR K H G d v
  | [], _, _, _, _, e => by simp at e
  | d :: ds, _, 0, _, h, e => by
    obtain ⟨v, r, rfl, x, t⟩ := h.uncons
    simp at e; subst e
    exact ⟨v, rfl, x⟩
  | d :: ds, _, i + 1, _, h, e => by
    obtain ⟨v, r, rfl, x, t⟩ := h.uncons
    obtain ⟨u, e1, q⟩ := VRs.get (i := i) t (by simpa using e)
    exact ⟨u, by simpa using e1, q⟩
theorem VRs.take : ∀ {ds : List D} {vs : List V} (n : Nat), VRs K H G ds vs → VRs K H G (ds.take n) (vs.take n)
  | _, _, 0, _ => by rw [List.take_zero, List.take_zero]; exact .nil
  | [], _, n + 1, h => by rw [h.nil_of]; exact .nil
  | d :: ds, _, n + 1, h => by
    obtain ⟨v, r, rfl, x, t⟩ := h.uncons
    exact .cons x (VRs.take n t)
theorem VRs.drop : ∀ {ds : List D} {vs : List V} (n : Nat), VRs K H G ds vs → VRs K H G (ds.drop n) (vs.drop n)
  | _, _, 0, h => by rw [List.drop_zero, List.drop_zero]; exact h
  | [], _, n + 1, h => by rw [h.nil_of]; exact .nil
  | d :: ds, _, n + 1, h => by
    obtain ⟨v, r, rfl, x, t⟩ := h.uncons
    exact VRs.drop n t
theorem VRs.set : ∀ {ds : List D} {vs : List V} {d : D} {v : V} (i : Nat), VRs K H G ds vs → VR K H G d v → VRs K H G (ds.set i d) (vs.set i v)
  | [], _, _, _, i, h, _ => by rw [h.nil_of]; exact .nil
  | d :: ds, _, _, _, 0, h, q => by
    obtain ⟨v, r, rfl, x, t⟩ := h.uncons
    exact .cons q t
  | d :: ds, _, _, _, i + 1, h, q => by
    obtain ⟨v, r, rfl, x, t⟩ := h.uncons
    exact .cons x (VRs.set i t q)
theorem VRs.reverse : ∀ {ds : List D} {vs : List V}, VRs K H G ds vs → VRs K H G ds.reverse vs.reverse
  | [], _, h => by rw [h.nil_of]; exact .nil
  | d :: ds, _, h => by
    obtain ⟨v, r, rfl, x, t⟩ := h.uncons
    rw [List.reverse_cons, List.reverse_cons]
    exact (VRs.reverse t).append (.cons x .nil)
/-- ints, texts, bools: what they stand for -/
theorem VRs.of_map {α : Type} (f : α → D) (g : α → V) (h : ∀ a, VR K H G (f a) (g a)) : ∀ xs : List α, VRs K H G (xs.map f) (xs.map g)
  | [] => .nil
  | x :: xs => .cons (h x) (VRs.of_map f g h xs)
theorem VRs.map_eq {α : Type} (f : α → D) (g : α → V) (h : ∀ a v, VR K H G (f a) v → v = g a) : ∀ {xs : List α} {vs : List V}, VRs K H G (xs.map f) vs → vs = xs.map g
  | [], _, q => q.nil_of
  | x :: xs, _, q => by
    obtain ⟨v, r, rfl, a, t⟩ := VRs.uncons q
    rw [List.map_cons, h x v a, VRs.map_eq f g h t]
theorem VRs.of_ints (ns : List Int) : VRs K H G (ns.map D.int) (ns.map V.int) := VRs.of_map _ _ (fun a => by rw [VR]) ns
/-- a new object that is not tracked -/
theorem Ext.laid {p : Addr} {o : HO} (hp : H p = none) : Ext H G (upd H p o) G :=
  ⟨fun a u h n => ⟨by rw [upd_ne (ne_of_none h hp)]; exact h, n⟩⟩
theorem OR.ext (hr : HR K H G) (x : Ext H G H' G') {a : Addr} {o : DO} (e : H' a = H a) (h : OR K H G a o) : OR K H' G' a o := by
  cases o with
  | lst ds => obtain ⟨vs, q, r⟩ := h; exact ⟨vs, e.trans q, r.ext hr x⟩
  | dK ds => obtain ⟨vs, q, z, r⟩ := h; exact ⟨vs, e.trans q, z, r.ext hr x⟩
  | dN ds => obtain ⟨vs, q, r⟩ := h; exact ⟨vs, q.ext hr x e, r.ext hr x⟩
  | ins C fs => obtain ⟨dx, vs, q, z, r⟩ := h; exact ⟨dx, vs, e.trans q, z, r.ext hr x⟩
  | rw es ep kvs => obtain ⟨vs, q, r⟩ := h; exact ⟨vs, q.ext hr x e, r.ext hr x⟩
theorem HR.laid (hr : HR K H G) {p : Addr} {o : HO} (hp : H p = none) : HR K (upd H p o) G := fun a u e => by
  have h := hr a u e
  obtain ⟨z, hz⟩ := h.some
  exact h.ext hr (.laid hp) (upd_ne (ne_of_none hz hp))
/-- a new tracked object -/
theorem Ext.new {p : Addr} {o : HO} {u : DO} (hp : H p = none) : Ext H G (upd H p o) (up G p u) :=
  ⟨fun a v h n => ⟨by rw [upd_ne (ne_of_none h hp)]; exact h, by rw [zvr (ne_of_none h hp)]; exact n⟩⟩
theorem HR.new (hr : HR K H G) {p : Addr} {o : HO} {u : DO} (hp : H p = none) (h : OR K (upd H p o) (up G p u) p u) : HR K (upd H p o) (up G p u) := fun a w e => by
  by_cases q : a = p
  · subst q; rw [zt] at e; cases e; exact h
  · rw [zvr q] at e
    exact (hr a w e).ext hr (.new hp) (upd_ne q)
/-- a tracked object changes -/
theorem Ext.write {p : Addr} {o : HO} {u w : DO} (hp : G p = some w) : Ext H G (upd H p o) (up G p u) :=
  ⟨fun a v h n => by
    have e : a ≠ p := fun e => by rw [e, hp] at n; cases n
    exact ⟨by rw [upd_ne e]; exact h, by rw [zvr e]; exact n⟩⟩
theorem HR.write (hr : HR K H G) {p : Addr} {o : HO} {u w : DO} (hp : G p = some w) (h : OR K (upd H p o) (up G p u) p u) : HR K (upd H p o) (up G p u) := fun a z e => by
  by_cases q : a = p
  · subst q; rw [zt] at e; cases e; exact h
  · rw [zvr q] at e
    exact (hr a z e).ext hr (.write hp) (upd_ne q)
/-- tracked no more: from now on it is read alone -/
theorem Ext.freeze {p : Addr} : Ext H G H (dl G p) :=
  ⟨fun a v h n => ⟨h, by
    by_cases e : a = p
    · rw [e, zlu]
    · rw [zz0 e]; exact n⟩⟩
theorem HR.freeze (hr : HR K H G) (p : Addr) : HR K H (dl G p) := fun a z e => by
  by_cases q : a = p
  · subst q; rw [zlu] at e; cases e
  · rw [zz0 q] at e
    exact (hr a z e).ext hr .freeze rfl
/-- .. a dict: locked -/
theorem Ext.freezeD {p : Addr} {o : HO} {w : DO} (hp : G p = some w) : Ext H G (upd H p o) (dl G p) :=
  ⟨fun a v h n => by
    have e : a ≠ p := fun e => by rw [e, hp] at n; cases n
    exact ⟨by rw [upd_ne e]; exact h, by rw [zz0 e]; exact n⟩⟩
theorem HR.freezeD (hr : HR K H G) {p : Addr} {o : HO} {w : DO} (hp : G p = some w) : HR K (upd H p o) (dl G p) := fun a z e => by
  by_cases q : a = p
  · subst q; rw [zlu] at e; cases e
  · rw [zz0 q] at e
    exact (hr a z e).ext hr (.freezeD hp) (upd_ne q)
/-- the tree of an object that is tracked no more -/
def DO.tree : DO → D
  | .lst ds => .lst ds
  | .dK kvs => .nd (.dK (kvs.map (·.1))) (kvs.map (·.2))
  | .dN kvs => .nd (.dN (kvs.map (·.1))) (kvs.map (·.2))
  | .ins C fs => .nd (.ins C (fs.map (·.1))) (fs.map (·.2))
  | .rw _ _ kvs => .nd (.dN (kvs.map (·.1))) (kvs.map (·.2))
theorem zrn {α β : Type} : ∀ l : List (α × β), (l.map (·.1)).zip (l.map (·.2)) = l
  | [] => rfl
  | (a, b) :: l => by simp [zrn l]
/-- what stands at p behind the freezing: a dict is locked -/
def Fz (H H' : Hp) (p : Addr) : DO → Prop
  | .dK _ => ∃ u od, H p = some u ∧ Mut (some u) ∧ H' = upd H p (.frz od u)
  | _ => H' = H
theorem HR.tree (hr : HR K H G) {p : Addr} {o : DO} (h : G p = some o) (f : Fz H H' p o) : VR K H' (dl G p) o.tree (.ref p) ∧ Ext H G H' (dl G p) ∧ HR K H' (dl G p) := by
  have q := hr p o h
  cases o with
  | lst ds =>
    obtain rfl : H' = H := f
    obtain ⟨vs, e, r⟩ := q
    refine ⟨?_, .freeze, hr.freeze p⟩
    show VR K H' (dl G p) (.nd .lst ds) _
    rw [VR]
    exact ⟨p, vs, rfl, ⟨zlu, e⟩, r.ext hr .freeze⟩
  | dK kvs =>
    obtain ⟨ws, e, z, r⟩ := q
    obtain ⟨u, od, hu, _, rfl⟩ := f
    rw [e] at hu; cases hu
    refine ⟨?_, .freezeD h, hr.freezeD h⟩
    show VR K _ (dl G p) (.nd (.dK _) _) _
    rw [VR]
    refine ⟨p, _, rfl, ⟨by rw [← z]; simp, od, ?_⟩, r.ext hr (.freezeD h)⟩
    rw [← z, zrn, upd_same]
  | dN kvs =>
    obtain rfl : H' = H := f
    obtain ⟨ws, e, r⟩ := q
    refine ⟨?_, .freeze, hr.freeze p⟩
    show VR K H' (dl G p) (.nd (.dN _) _) _
    rw [VR]
    exact ⟨p, ws, rfl, ⟨zlu, e⟩, r.ext hr .freeze⟩
  | ins C fs =>
    obtain rfl : H' = H := f
    obtain ⟨dx, ws, e, z, r⟩ := q
    refine ⟨?_, .freeze, hr.freeze p⟩
    show VR K H' (dl G p) (.nd (.ins C _) _) _
    rw [VR]
    refine ⟨p, _, rfl, ⟨zlu, by rw [← z]; simp, dx, ?_⟩, r.ext hr .freeze⟩
    rw [← z, zrn]; exact e
  | rw es ep kvs =>
    obtain rfl : H' = H := f
    obtain ⟨ws, e, r⟩ := q
    refine ⟨?_, .freeze, hr.freeze p⟩
    show VR K H' (dl G p) (.nd (.dN _) _) _
    rw [VR]
    exact ⟨p, ws, rfl, ⟨zlu, e.at⟩, r.ext hr .freeze⟩
end
abbrev DSt := List (Option D)
/-- where one set out: the objects then -/
class Bs where
  H0 : Hp
  G0 : DHp
structure SR [Bs] (K : Ml) (H : Hp) (G : DHp) (σ : L2.St) (η : DSt) : Prop where
  len : η.length = σ.length
  get : ∀ (i : Nat) (d : D), η[i]? = some (some d) → ∃ v, σ[i]? = some (some v) ∧ VR K H G d v
  base : Ext Bs.H0 Bs.G0 H G
section
variable {K : Ml} {H H' : Hp} {G G' : DHp} {σ : L2.St} {η η' : DSt}
theorem SR.ext [Bs] (hr : HR K H G) (x : Ext H G H' G') (h : SR K H G σ η) : SR K H' G' σ η :=
  ⟨h.len, fun i d e => let ⟨v, q, r⟩ := h.get i d e; ⟨v, q, r.ext hr x⟩, h.base.trans x⟩
theorem SR.set [Bs] (h : SR K H G σ η) {d : D} {v : V} (i : Nat) (r : VR K H G d v) : SR K H G (σ.set i (some v)) (η.set i (some d)) := by
  refine ⟨by rw [List.length_set, List.length_set, h.len], fun j e q => ?_, h.base⟩
  by_cases hj : i = j
  · subst hj
    by_cases hl : i < η.length
    · rw [List.getElem?_set_self hl] at q
      cases q
      exact ⟨v, by rw [List.getElem?_set_self (by rw [← h.len]; exact hl)], r⟩
    · rw [List.getElem?_eq_none (by rw [List.length_set]; omega)] at q; cases q
  · rw [List.getElem?_set_ne hj] at q
    obtain ⟨u, a, b⟩ := h.get j e q
    exact ⟨u, by rw [List.getElem?_set_ne hj]; exact a, b⟩
/-- less is known -/
def Le (η η' : DSt) : Prop := η.length = η'.length ∧ ∀ (i : Nat) (d : D), η[i]? = some (some d) → η'[i]? = some (some d)
theorem Le.refl (η : DSt) : Le η η := ⟨rfl, fun _ _ h => h⟩
theorem SR.le [Bs] (h : SR K H G σ η') (l : Le η η') : SR K H G σ η := ⟨l.1.trans h.len, fun i d e => h.get i d (l.2 i d e), h.base⟩
theorem SR.none [Bs] (h : SR K H G σ η) (i : Nat) (o : Option V) : SR K H G (σ.set i o) (η.set i Option.none) := by
  refine ⟨by rw [List.length_set, List.length_set, h.len], fun j e q => ?_, h.base⟩
  by_cases hj : i = j
  · subst hj
    by_cases hl : i < η.length
    · rw [List.getElem?_set_self hl] at q; cases q
    · rw [List.getElem?_eq_none (by rw [List.length_set]; omega)] at q; cases q
  · rw [List.getElem?_set_ne hj] at q
    obtain ⟨u, a, b⟩ := h.get j e q
    exact ⟨u, by rw [List.getElem?_set_ne hj]; exact a, b⟩
theorem Le.nil : Le [] [] := Le.refl _
theorem Le.keep {o : Option D} {η η' : DSt} (h : Le η η') : Le (o :: η) (o :: η') :=
  ⟨by rw [List.length_cons, List.length_cons, h.1], fun i d e => by
    cases i with
    | zero => simpa using e
    | succ i => simpa using h.2 i d (by simpa using e)⟩
theorem Le.drop {o : Option D} {η η' : DSt} (h : Le η η') : Le (none :: η) (o :: η') :=
  ⟨by rw [List.length_cons, List.length_cons, h.1], fun i d e => by
    cases i with
    | zero => simp at e
    | succ i => simpa using h.2 i d (by simpa using e)⟩
end
end DL
namespace DL
open PySem PySem.Spec PyProof.Rows L2
abbrev DVK := D → DHp → Prop
abbrev DTE := DSt → DHp → DVK → Prop
abbrev DTT := DSt → DHp → (Bool → DHp → Prop) → Prop
abbrev DTA := DSt → DHp → (List D → DHp → Prop) → Prop
structure ziv where
  nx : DSt → DHp → Prop
  rt : DVK
  bk : DSt → DHp → Prop := fun _ _ => False
  ct : DSt → DHp → Prop := fun _ _ => False
abbrev DTS := ziv → DSt → DHp → Prop
abbrev DTG := D → DSt → DHp → (DSt → DHp → Prop) → Prop
abbrev DTGs := List D → DSt → DHp → (DSt → DHp → Prop) → Prop
def zoq [Bs] (K : Ml) (T : DTE) : TE := fun σ H Q => ∃ η G P, SR K H G σ η ∧ HR K H G ∧ T η G P ∧ ∀ d G' v H', P d G' → Ext H G H' G' → HR K H' G' → VR K H' G' d v → Q v H'
def zyy [Bs] (K : Ml) (T : DTT) : TT := fun σ H Q => ∃ η G P, SR K H G σ η ∧ HR K H G ∧ T η G P ∧ ∀ b G' H', P b G' → Ext H G H' G' → HR K H' G' → Q b H'
def z27 [Bs] (K : Ml) (T : DTA) : TA := fun σ H Q => ∃ η G P, SR K H G σ η ∧ HR K H G ∧ T η G P ∧ ∀ ds G' vs H', P ds G' → Ext H G H' G' → HR K H' G' → VRs K H' G' ds vs → Q vs H'
structure zz4 [Bs] (K : Ml) (H : Hp) (G : DHp) (F : ziv) (E : Ends) : Prop where
  nx : ∀ η G' σ H', F.nx η G' → Ext H G H' G' → SR K H' G' σ η → HR K H' G' → E.nx σ H'
  rt : ∀ d G' v H', F.rt d G' → Ext H G H' G' → HR K H' G' → VR K H' G' d v → E.rt v H'
  bk : ∀ η G' σ H', F.bk η G' → Ext H G H' G' → SR K H' G' σ η → HR K H' G' → E.bk σ H'
  ct : ∀ η G' σ H', F.ct η G' → Ext H G H' G' → SR K H' G' σ η → HR K H' G' → E.ct σ H'
theorem zz4.ext [Bs] {K H G H1 G1 F E} (h : zz4 K H G F E) (x : Ext H G H1 G1) : zz4 K H1 G1 F E :=
  ⟨fun η G' σ H' p y s r => h.nx η G' σ H' p (x.trans y) s r, fun d G' v H' p y r q => h.rt d G' v H' p (x.trans y) r q, fun η G' σ H' p y s r => h.bk η G' σ H' p (x.trans y) s r, fun η G' σ H' p y s r => h.ct η G' σ H' p (x.trans y) s r⟩
def z2h [Bs] (K : Ml) (T : DTS) : TS := fun E σ H => ∃ η G F, SR K H G σ η ∧ HR K H G ∧ T F η G ∧ zz4 K H G F E
/-- is: the slots that a target may change -/
def z4i [Bs] (K : Ml) (is : List Nat) (T : DTG) : TG := fun v σ H Q => ∃ d η G P, VR K H G d v ∧ SR K H G σ η ∧ HR K H G ∧ T d η G P ∧ ∀ η' G' σ' H', P η' G' → Ext H G H' G' → SR K H' G' σ' η' → HR K H' G' → wipe σ' is = wipe σ is → Q σ' H'
def z3x [Bs] (K : Ml) (is : List Nat) (T : DTGs) : TGs := fun vs σ H Q => ∃ ds η G P, VRs K H G ds vs ∧ SR K H G σ η ∧ HR K H G ∧ T ds η G P ∧ ∀ η' G' σ' H', P η' G' → Ext H G H' G' → SR K H' G' σ' η' → HR K H' G' → wipe σ' is = wipe σ is → Q σ' H'
abbrev PED [Bs] (X : Cx) (e : Expr) (T : DTE) : Prop := PE X e (zoq X.ml T)
abbrev PTD [Bs] (X : Cx) (e : Expr) (T : DTT) : Prop := PT X e (zyy X.ml T)
abbrev PWD [Bs] (X : Cx) (e : Expr) (T : DTT) : Prop := PW X e (zyy X.ml T)
abbrev PAD [Bs] (X : Cx) (es : List Expr) (T : DTA) : Prop := PA X es (z27 X.ml T)
abbrev PSD [Bs] (X : Cx) (st : Stmt) (T : DTS) : Prop := PS X st (z2h X.ml T)
abbrev PSsD [Bs] (X : Cx) (st : List Stmt) (T : DTS) : Prop := PSs X st (z2h X.ml T)
abbrev PGD [Bs] (X : Cx) (e : Expr) (is : List Nat) (T : DTG) : Prop := PG X e (z4i X.ml is T)
abbrev PGsD [Bs] (X : Cx) (es : List Expr) (is : List Nat) (T : DTGs) : Prop := PGs X es (z3x X.ml is T)
section
variable {X : Cx}
theorem PE.impI {e : Expr} {t t' : TE} (h : PE X e t) (i : ∀ pins s σ H Q, Inv X pins σ H s → t' σ H Q → t σ H Q) : PE X e t' := ⟨fun pins s σ H Q I q => h.run pins s σ H Q I (i _ _ _ _ _ I q)⟩
theorem PT.impI {e : Expr} {t t' : TT} (h : PT X e t) (i : ∀ pins s σ H Q, Inv X pins σ H s → t' σ H Q → t σ H Q) : PT X e t' := ⟨fun pins s σ H Q I q => h.run pins s σ H Q I (i _ _ _ _ _ I q)⟩
theorem PW.impI {e : Expr} {t t' : TT} (h : PW X e t) (i : ∀ pins s σ H Q, Inv X pins σ H s → t' σ H Q → t σ H Q) : PW X e t' := ⟨fun w pins s σ H Q I q => h.run w pins s σ H Q I (i _ _ _ _ _ I q)⟩
theorem PA.impI {es : List Expr} {t t' : TA} (h : PA X es t) (i : ∀ pins s σ H Q, Inv X pins σ H s → t' σ H Q → t σ H Q) : PA X es t' := ⟨fun w pins s σ H Q I q => h.run w pins s σ H Q I (i _ _ _ _ _ I q)⟩
theorem PS.impI {e : Stmt} {t t' : TS} (h : PS X e t) (i : ∀ pins s σ H E, Inv X pins σ H s → t' E σ H → t E σ H) : PS X e t' := ⟨fun pins s σ H E I q => h.run pins s σ H E I (i _ _ _ _ _ I q)⟩
theorem PSs.impI {e : List Stmt} {t t' : TS} (h : PSs X e t) (i : ∀ pins s σ H E, Inv X pins σ H s → t' E σ H → t E σ H) : PSs X e t' := ⟨fun pins s σ H E I q => h.run pins s σ H E I (i _ _ _ _ _ I q)⟩
theorem PG.impI {e : Expr} {t t' : TG} (h : PG X e t) (i : ∀ pins s σ H v Q, Inv X pins σ H s → t' v σ H Q → t v σ H Q) : PG X e t' := ⟨fun pins s σ H v u Q I r q => h.run pins s σ H v u Q I r (i _ _ _ _ _ _ I q)⟩
theorem PGs.impI {e : List Expr} {t t' : TGs} (h : PGs X e t) (i : ∀ pins s σ H v Q, Inv X pins σ H s → t' v σ H Q → t v σ H Q) : PGs X e t' := ⟨fun pins s σ H v u Q I r q => h.run pins s σ H v u Q I r (i _ _ _ _ _ _ I q)⟩
def zk (i : Nat) : DTE := fun η G Q => match η[i]? with
  | some (some d) => Q d G
  | _ => False
theorem zh [Bs] (i : Nat) {x : Str} {pos : Pos} (hN : X.N[i]? = some x := by rfl) (hv : Vis X.env.scope x := by first | exact Or.inl rfl | exact Or.inr (Or.inl rfl) | exact Or.inr (Or.inr rfl)) (hd : (x == ("__debug__" : Str)) = false := by decide)
    (hcd : (x == ("__classdict__" : Str)) = false := by decide) : PED X (.Name x pos) (zk i) :=
  PE.impI (pe_var hN hv hd hcd) fun pins s σ H Q I ⟨η, G, P, hs, hr, t, k⟩ => by
    unfold zk at t
    split at t
    · rename_i d e
      obtain ⟨v, q, r⟩ := hs.2 i d e
      exact ⟨v, q, k d G v H t (.refl _ _) hr r⟩
    · exact t.elim
def dC (d : D) : DTE := fun _ G Q => Q d G
theorem ztm [Bs] {e : Expr} {d : D} {v : V} (h : PE X e (tC v)) (r : ∀ H G, VR X.ml H G d v) : PED X e (dC d) :=
  PE.impI h fun pins s σ H Q I ⟨η, G, P, hs, hr, t, k⟩ => k d G v H t (.refl _ _) hr (r H G)
theorem zl [Bs] {i : Int} {j pos} : PED X (.Constant (.int i) j pos) (dC (.int i)) := ztm pe_int fun _ _ => by rw [VR]
theorem zn4 [Bs] {i : Bool} {j pos} : PED X (.Constant (.bool i) j pos) (dC (.bl i)) := ztm pe_bl fun _ _ => by rw [VR]
theorem zbe [Bs] {i : Str} {j pos} : PED X (.Constant (.str i) j pos) (dC (.str i)) := ztm pe_str fun _ _ => by rw [VR]
theorem zsf [Bs] {j pos} : PED X (.Constant .none j pos) (dC .non) := ztm pe_non fun _ _ => by rw [VR]
theorem zdc [Bs] {x : Str} {i : Int} {t : Tok} {pos : Pos} (hm : X.mg x = some (.int i t)) (hg : Gl X x := by rfl) (hd : (x == ("__debug__" : Str)) = false := by decide) : PED X (.Name x pos) (dC (.int i)) :=
  ztm (pe_glob (v := .int i) hg hm ⟨t, rfl⟩ hd) fun _ _ => by rw [VR]
theorem zjt [Bs] {x : Str} {a : Addr} {pos : Pos} (hm : X.mg x = some (.ref a)) (hg : Gl X x := by rfl) (hd : (x == ("__debug__" : Str)) = false := by decide) : PED X (.Name x pos) (dC (.ref a)) :=
  ztm (pe_glob (v := .ref a) hg hm rfl hd) fun _ _ => by rw [VR]
/-- a written tuple of the module -/
def KTup (K : Ml) (a : Addr) (d : D) : Prop := ∀ H G, VR K H G d (.ref a)
theorem z0w [Bs] {x : Str} {a : Addr} {d : D} {pos : Pos} (hm : X.mg x = some (.ref a)) (hk : KTup X.ml a d) (hg : Gl X x := by rfl) (hd : (x == ("__debug__" : Str)) = false := by decide) : PED X (.Name x pos) (dC d) :=
  ztm (pe_glob (v := .ref a) hg hm rfl hd) hk
theorem zg3 [Bs] {x : Str} {n : String} {pos : Pos} (hm : X.mg x = none) (hv : bootBuiltins x = some (.type n)) (hg : Gl X x := by rfl) (hn : x ≠ "__name__" := by decide) (hd : (x == ("__debug__" : Str)) = false := by decide) : PED X (.Name x pos) (dC (.ty n)) :=
  ztm (pe_bltn (v := .ty n) hg hm hv rfl hn hd) fun _ _ => by rw [VR]
def dNil : DTA := fun _ G Q => Q [] G
def zi (T : DTE) (R : DTA) : DTA := fun η G Q => T η G fun d G1 => R η G1 fun ds G2 => Q (d :: ds) G2
theorem zj [Bs] : PAD X [] dNil := PA.impI pa_nil fun pins s σ H Q I ⟨η, G, P, hs, hr, t, k⟩ => k [] G [] H t (.refl _ _) hr .nil
theorem zd [Bs] {e : Expr} {es : List Expr} {T : DTE} {R : DTA} (ha : PED X e T) (hb : PAD X es R) (hs : starEach (e :: es) X.env = (false, eval e X.env) :: starEach es X.env := by rfl) : PAD X (e :: es) (zi T R) :=
  PA.impI (pa_cons ha hb hs) fun pins s σ H Q I ⟨η, G, P, hs, hr, t, k⟩ =>
    ⟨η, G, _, hs, hr, t, fun d1 G1 v1 H1 p1 x1 r1 q1 => ⟨η, G1, _, hs.ext hr x1, r1, p1, fun ds G2 vs H2 p2 x2 r2 q2 => k (d1 :: ds) G2 (v1 :: vs) H2 p2 (x1.trans x2) r2 (.cons (q1.ext r1 x2) q2)⟩⟩
/-- a tuple -/
def dTup (T : DTA) : DTE := fun η G Q => T η G fun ds G1 => ds.length ≤ 1000 ∧ Q (.nd .tup ds) G1
theorem zyg {n : Nat} (h : n ≤ 1000) : n ≤ sizeLine := Nat.le_trans h (by decide)
theorem zv [Bs] {es : List Expr} {x1 : Nat} {pos : Pos} {T : DTA} (h : PAD X es T) : PED X (.Tuple es x1 pos) (dTup T) :=
  PE.impI (pe_tup h) fun pins s σ H Q I ⟨η, G, P, hs, hr, t, k⟩ =>
    ⟨η, G, _, hs, hr, t, fun ds G1 vs H1 ⟨pl, p1⟩ x1 r1 q1 => ⟨by rw [q1.length]; exact zyg pl, fun p hp => by
      have x2 : Ext H1 G1 (upd H1 p (.tup vs)) G1 := .laid hp
      refine k _ G1 (.ref p) _ p1 (x1.trans x2) (r1.laid hp) ?_
      rw [VR]
      exact ⟨p, vs, rfl, .inl (.inl upd_same), q1.ext r1 x2⟩⟩⟩
/-- a new list that is not changed later -/
def zlh (T : DTA) : DTE := fun η G Q => T η G fun ds G1 => ds.length ≤ 1000 ∧ Q (.nd .lst ds) G1
theorem zk7 [Bs] {es : List Expr} {pos : Pos} {T : DTA} (h : PAD X es T) : PED X (.List es pos) (zlh T) :=
  PE.impI (pe_lst h) fun pins s σ H Q I ⟨η, G, P, hs, hr, t, k⟩ =>
    ⟨η, G, _, hs, hr, t, fun ds G1 vs H1 ⟨pl, p1⟩ x1 r1 q1 => ⟨by rw [q1.length]; exact zyg pl, fun p hp => by
      have x2 : Ext H1 G1 (upd H1 p (.lst vs)) G1 := .laid hp
      refine k _ G1 (.ref p) _ p1 (x1.trans x2) (r1.laid hp) ?_
      rw [VR]
      exact ⟨p, vs, rfl, ⟨r1.free hp, upd_same⟩, q1.ext r1 x2⟩⟩⟩
/-- a new list that is changed later -/
def zne (T : DTA) : DTE := fun η G Q => T η G fun ds G1 => ds.length ≤ 1000 ∧ ∀ p, G1 p = none → Q (.ref p) (up G1 p (.lst ds))
theorem zrj [Bs] {es : List Expr} {pos : Pos} {T : DTA} (h : PAD X es T) : PED X (.List es pos) (zne T) :=
  PE.impI (pe_lst h) fun pins s σ H Q I ⟨η, G, P, hs, hr, t, k⟩ =>
    ⟨η, G, _, hs, hr, t, fun ds G1 vs H1 ⟨pl, p1⟩ x1 r1 q1 => ⟨by rw [q1.length]; exact zyg pl, fun p hp => by
      have x2 : Ext H1 G1 (upd H1 p (.lst vs)) (up G1 p (.lst ds)) := .new hp
      refine k _ _ (.ref p) _ (p1 p (r1.free hp)) (x1.trans x2) (r1.new hp ⟨vs, upd_same, q1.ext r1 x2⟩) ?_
      rw [VR]⟩⟩
abbrev DR2 := D → D → DHp → DVK → Prop
def zp6 (K : Ml) (r : DR2) : R2 := fun x y H Q => ∃ dx dy G P, HR K H G ∧ VR K H G dx x ∧ VR K H G dy y ∧ r dx dy G P ∧ ∀ d G' v H', P d G' → Ext H G H' G' → HR K H' G' → VR K H' G' d v → Q v H'
abbrev OpD (X : Cx) (f : Value → Value → Sem Value) (r : DR2) : Prop := OpR X f (zp6 X.ml r)
def dOp (r : DR2) (Ta Tb : DTE) : DTE := fun η G Q => Ta η G fun x G1 => Tb η G1 fun y G2 => r x y G2 Q
theorem zsa [Bs] {r : DR2} {Ta Tb : DTE} {K : Ml} {σ : L2.St} {H : Hp} {Q : VK} (h : zoq K (dOp r Ta Tb) σ H Q) : tOp (zp6 K r) (zoq K Ta) (zoq K Tb) σ H Q :=
  let ⟨η, G, P, hs, hr, t, k⟩ := h
  ⟨η, G, _, hs, hr, t, fun d1 G1 v1 H1 p1 x1 r1 q1 => ⟨η, G1, _, hs.ext hr x1, r1, p1, fun d2 G2 v2 H2 p2 x2 r2 q2 =>
    ⟨d1, d2, G2, P, r2, q1.ext r1 x2, q2, p2, fun d G' v H' p x r q => k d G' v H' p ((x1.trans x2).trans x) r q⟩⟩⟩
theorem zar [Bs] {a b : Expr} {op : Operator} {pos : Pos} {r : DR2} {Ta Tb : DTE} (ho : OpD X (binaryOp op) r) (ha : PED X a Ta) (hb : PED X b Tb) : PED X (.BinOp a op b pos) (dOp r Ta Tb) :=
  PE.impI (pe_op ho ha hb) fun _ _ _ _ _ _ h => zsa h
theorem zfv [Bs] {a b : Expr} {op : CmpOp} {pos : Pos} {r : DR2} {Ta Tb : DTE} (ho : OpD X (compareOp op) r) (ha : PED X a Ta) (hb : PED X b Tb) (hm : behindInMarks op b = false) : PED X (.Compare a [op] [b] pos) (dOp r Ta Tb) :=
  PE.impI (pe_cmpR ho ha hb hm) fun _ _ _ _ _ _ h => zsa h
/-- a test by a truth value -/
def zay (T : DTE) : DTT := fun η G Q => T η G fun d G1 => match d with
  | .bl b => Q b G1
  | _ => False
theorem zs0 [Bs] {T : DTE} {K : Ml} {σ : L2.St} {H : Hp} {Q : Bool → Hp → Prop} (h : zyy K (zay T) σ H Q) : tB (zoq K T) σ H Q := by
  obtain ⟨η, G, P, hs, hr, t, k⟩ := h
  refine ⟨η, G, _, hs, hr, t, fun d1 G1 v1 H1 p1 x1 r1 q1 => ?_⟩
  cases d1 with
  | bl b => rw [VR] at q1; exact ⟨b, q1, k b G1 H1 p1 x1 r1⟩
  | _ => exact p1.elim
theorem zaq [Bs] {a b : Expr} {op : CmpOp} {pos : Pos} {r : DR2} {Ta Tb : DTE} (ho : OpD X (compareOp op) r) (ha : PED X a Ta) (hb : PED X b Tb) (hm : behindInMarks op b = false) : PTD X (.Compare a [op] [b] pos) (zay (dOp r Ta Tb)) :=
  PT.impI (pt_cmpR ho ha hb hm) fun _ _ σ H Q _ h => by
    have h2 := zs0 h
    obtain ⟨η, G, P, hs, hr, t, k⟩ := h2
    exact zsa ⟨η, G, P, hs, hr, t, k⟩
theorem zdk [Bs] {e : Expr} {T : DTE} (h : PED X e T) (he : ∀ whole, isTrue e X.env whole = (do let v ← whole; standAt e.pos; holding [v] (truthy v)) := by intro _; rfl) : PTD X e (zay T) :=
  PT.impI (pt_val h he) fun _ _ σ H Q _ h => zs0 h
def dAnd (t u : DTT) : DTT := fun η G Q => t η G fun c G1 => if c = true then u η G1 Q else Q false G1
def dOr (t u : DTT) : DTT := fun η G Q => t η G fun c G1 => if c = true then Q true G1 else u η G1 Q
def dNot (t : DTT) : DTT := fun η G Q => t η G fun c G1 => Q (!c) G1
theorem zmv [Bs] {e : Expr} {T : DTT} (h : PWD X e T) : PTD X e T := h.pt
theorem z0e [Bs] {a : Expr} {T : DTT} {pos : Pos} (h : PTD X a T) : PWD X (.BoolOp .And [a] pos) T := pw_and1 h
theorem zf3 [Bs] {a : Expr} {T : DTT} {pos : Pos} (h : PTD X a T) : PWD X (.BoolOp .Or [a] pos) T := pw_or1 h
theorem z2q [Bs] {a b : Expr} {rest : List Expr} {t u : DTT} {pos : Pos} (ha : PTD X a t) (hb : PWD X (.BoolOp .And (b :: rest) pos) u) : PWD X (.BoolOp .And (a :: b :: rest) pos) (dAnd t u) :=
  PW.impI (pw_and ha hb) fun _ _ σ H Q _ ⟨η, G, P, hs, hr, t, k⟩ => ⟨η, G, _, hs, hr, t, fun c G1 H1 p1 x1 r1 => by
    by_cases hc : c = true
    · subst hc
      rw [if_pos rfl] at p1 ⊢
      exact ⟨η, G1, P, hs.ext hr x1, r1, p1, fun b G2 H2 p2 x2 r2 => k b G2 H2 p2 (x1.trans x2) r2⟩
    · rw [if_neg hc] at p1 ⊢
      exact k false G1 H1 p1 x1 r1⟩
theorem zfa [Bs] {a b : Expr} {rest : List Expr} {t u : DTT} {pos : Pos} (ha : PTD X a t) (hb : PWD X (.BoolOp .Or (b :: rest) pos) u) : PWD X (.BoolOp .Or (a :: b :: rest) pos) (dOr t u) :=
  PW.impI (pw_or ha hb) fun _ _ σ H Q _ ⟨η, G, P, hs, hr, t, k⟩ => ⟨η, G, _, hs, hr, t, fun c G1 H1 p1 x1 r1 => by
    by_cases hc : c = true
    · subst hc
      rw [if_pos rfl] at p1 ⊢
      exact k true G1 H1 p1 x1 r1
    · rw [if_neg hc] at p1 ⊢
      exact ⟨η, G1, P, hs.ext hr x1, r1, p1, fun b G2 H2 p2 x2 r2 => k b G2 H2 p2 (x1.trans x2) r2⟩⟩
theorem zd0 [Bs] {a : Expr} {T : DTT} {pos : Pos} (h : PTD X a T) : PTD X (.UnaryOp .Not a pos) (dNot T) :=
  PT.impI (pt_not h) fun _ _ σ H Q _ ⟨η, G, P, hs, hr, t, k⟩ => ⟨η, G, _, hs, hr, t, fun c G1 H1 p1 x1 r1 => k (!c) G1 H1 p1 x1 r1⟩
/-- as values; all but the last are truth values -/
def zhq (Ta Tb : DTE) : DTE := fun η G Q => Ta η G fun d G1 => match d with
  | .bl c => if c = true then Tb η G1 Q else Q (.bl false) G1
  | _ => False
def dOrV (Ta Tb : DTE) : DTE := fun η G Q => Ta η G fun d G1 => match d with
  | .bl c => if c = true then Q (.bl true) G1 else Tb η G1 Q
  | _ => False
def zml (Ta : DTE) : DTE := fun η G Q => Ta η G fun d G1 => match d with
  | .bl c => Q (.bl (!c)) G1
  | _ => False
theorem zjh [Bs] {op : BoolOp} {a : Expr} {T : DTE} {pos : Pos} (h : PED X a T) : PED X (.BoolOp op [a] pos) T := pe_one h
theorem zf2 [Bs] {a b : Expr} {rest : List Expr} {Ta Tb : DTE} {pos : Pos} (ha : PED X a Ta) (hb : PED X (.BoolOp .And (b :: rest) pos) Tb) : PED X (.BoolOp .And (a :: b :: rest) pos) (zhq Ta Tb) :=
  PE.impI (pe_and ha hb) fun _ _ σ H Q _ ⟨η, G, P, hs, hr, t, k⟩ => ⟨η, G, _, hs, hr, t, fun d G1 v H1 p1 x1 r1 q1 => by
    cases d with
    | bl c =>
      rw [VR] at q1
      refine ⟨c, q1, ?_⟩
      by_cases hc : c = true
      · subst hc
        have p1 : Tb η G1 P := by simpa using p1
        rw [if_pos rfl]
        exact ⟨η, G1, P, hs.ext hr x1, r1, p1, fun d G2 v H2 p2 x2 r2 q => k d G2 v H2 p2 (x1.trans x2) r2 q⟩
      · have p1 : P (.bl false) G1 := by simpa [hc] using p1
        rw [if_neg hc]
        exact k _ G1 _ H1 p1 x1 r1 (by rw [VR])
    | _ => exact p1.elim⟩
theorem zss [Bs] {a : Expr} {Ta : DTE} {pos : Pos} (ha : PED X a Ta) : PED X (.UnaryOp .Not a pos) (zml Ta) :=
  PE.impI (pe_not ha) fun _ _ σ H Q _ ⟨η, G, P, hs, hr, t, k⟩ => ⟨η, G, _, hs, hr, t, fun d G1 v H1 p1 x1 r1 q1 => by
    cases d with
    | bl c =>
      rw [VR] at q1
      exact ⟨c, q1, k _ G1 _ H1 p1 x1 r1 (by rw [VR])⟩
    | _ => exact p1.elim⟩
def dIf (t : DTT) (Ta Tb : DTE) : DTE := fun η G Q => t η G fun c G1 => if c = true then Ta η G1 Q else Tb η G1 Q
theorem zqg [Bs] {c a b : Expr} {t : DTT} {Ta Tb : DTE} {pos : Pos} (hc : PTD X c t) (ha : PED X a Ta) (hb : PED X b Tb) : PED X (.IfExp c a b pos) (dIf t Ta Tb) :=
  PE.impI (pe_ifExp hc ha hb) fun _ _ σ H Q _ ⟨η, G, P, hs, hr, t, k⟩ => ⟨η, G, _, hs, hr, t, fun c G1 H1 p1 x1 r1 => by
    by_cases hc : c = true
    · subst hc
      rw [if_pos rfl] at p1 ⊢
      exact ⟨η, G1, P, hs.ext hr x1, r1, p1, fun d G2 v H2 p2 x2 r2 q => k d G2 v H2 p2 (x1.trans x2) r2 q⟩
    · rw [if_neg hc] at p1 ⊢
      exact ⟨η, G1, P, hs.ext hr x1, r1, p1, fun d G2 v H2 p2 x2 r2 q => k d G2 v H2 p2 (x1.trans x2) r2 q⟩⟩
def zdd : DTS := fun F η G => F.nx η G
def dSeq (t u : DTS) : DTS := fun F η G => t { F with nx := u F } η G
theorem zam [Bs] : PSsD X [] zdd := PSs.impI pss_nil fun _ _ σ H E _ ⟨η, G, F, hs, hr, t, k⟩ => k.nx η G σ H t (.refl _ _) hs hr
theorem zm [Bs] {st : Stmt} {rest : List Stmt} {t u : DTS} (h1 : PSD X st t) (h2 : PSsD X rest u) : PSsD X (st :: rest) (dSeq t u) :=
  PSs.impI (pss_cons h1 h2) fun _ _ σ H E _ ⟨η, G, F, hs, hr, t, k⟩ => ⟨η, G, _, hs, hr, t,
    ⟨fun η' G' σ' H' p x s r => ⟨η', G', F, s, r, p, k.ext x⟩, k.rt, k.bk, k.ct⟩⟩
theorem zo [Bs] {st : Stmt} {t : DTS} (h1 : PSD X st t) : PSsD X [st] t := pss_one h1
def zm4 : DTS := fun F η G => F.bk η G
def zr8 : DTS := fun F η G => F.ct η G
def zov (T : DTE) : DTS := fun F η G => T η G fun _ G1 => F.nx η G1
theorem zwe [Bs] {e : Expr} {T : DTE} {pos : Pos} (he : PED X e T) (hs : swapsWith e none pos.line X.env = pure false := by rfl) : PSD X (.Expr e pos) (zov T) :=
  PS.impI (ps_expr he hs) fun _ _ σ H E _ ⟨η, G, F, hs, hr, t, k⟩ => ⟨η, G, _, hs, hr, t, fun d G1 v H1 p1 x1 r1 q1 => k.nx η G1 σ H1 p1 x1 (hs.ext hr x1) r1⟩
def dRet (T : DTE) : DTS := fun F η G => T η G F.rt
theorem zat [Bs] {e : Expr} {T : DTE} {pos : Pos} (he : PED X e T) : PSD X (.Return (some e) pos) (dRet T) :=
  PS.impI (ps_ret he) fun _ _ σ H E _ ⟨η, G, F, hs, hr, t, k⟩ => ⟨η, G, _, hs, hr, t, fun d G1 v H1 p1 x1 r1 q1 => k.rt d G1 v H1 p1 x1 r1 q1⟩
theorem Inv.fz {pins : List (Addr × Obj)} {σ : L2.St} {H : Hp} {G : DHp} {s : Shared} {p : Addr} {o : DO} (I : Inv X pins σ H s) (hr : HR X.ml H G) (h : G p = some o) : ∃ H', Fz H H' p o ∧ Inv X pins σ H' s := by
  have q := hr p o h
  cases o with
  | lst ds => exact ⟨H, rfl, I⟩
  | ins C fs => exact ⟨H, rfl, I⟩
  | rw es ep kvs => exact ⟨H, rfl, I⟩
  | dK kvs =>
    obtain ⟨ws, e, _⟩ := q
    obtain ⟨od, I'⟩ := I.lock e trivial
    exact ⟨_, ⟨_, od, e, trivial, rfl⟩, I'⟩
  | dN kvs => exact ⟨H, rfl, I⟩
/-- what is made is changed no more -/
def dFz (T : DTE) : DTE := fun η G Q => T η G fun d G1 => match d with
  | .ref a => match G1 a with
    | some o => Q o.tree (dl G1 a)
    | none => False
  | d => Q d G1
theorem zcz [Bs] {e : Expr} {T : DTE} (h : PED X e T) : PED X e (dFz T) := ⟨fun pins s σ H Q I ⟨η, G, P, hs, hr, t, k⟩ => by
  refine thn (h.run pins s σ H (fun v H1 => ∃ d G1, (match d with | .ref a => (match G1 a with | some o => P o.tree (dl G1 a) | none => False) | d => P d G1) ∧ Ext H G H1 G1 ∧ HR X.ml H1 G1 ∧ VR X.ml H1 G1 d v) I ⟨η, G, _, hs, hr, t, fun d G1 v H1 p x r q => ⟨d, G1, p, x, r, q⟩⟩) fun u s1 ⟨v, H1, I1, rv, d, G1, p, x, r, q⟩ => ?_
  cases d with
  | ref a =>
    rw [VR] at q
    subst q
    cases e : G1 a with
    | none =>
      have p : (match G1 a with | some o => P o.tree (dl G1 a) | none => False) := p
      rw [e] at p; exact p.elim
    | some o =>
      have p : (match G1 a with | some o => P o.tree (dl G1 a) | none => False) := p
      rw [e] at p
      obtain ⟨H2, f, I2⟩ := Inv.fz I1 r e
      obtain ⟨t1, t2, t3⟩ := r.tree e f
      exact ⟨_, H2, I2, rv, k _ _ _ _ p (x.trans t2) t3 t1⟩
  | _ => exact ⟨v, H1, I1, rv, k _ G1 v H1 p x r q⟩⟩
def zp7 (T : DTE) : DTS := dRet (dFz T)
theorem zz9 [Bs] {e : Expr} {T : DTE} {pos : Pos} (he : PED X e T) : PSD X (.Return (some e) pos) (zp7 T) := zat (zcz he)
def zse : DTS := fun F _ G => F.rt .non G
def dIfS (c : DTT) (t u : DTS) : DTS := fun F η G => c η G fun b G1 => if b = true then t F η G1 else u F η G1
theorem zb7 [Bs] {c : Expr} {a b : List Stmt} {tc : DTT} {t u : DTS} {pos : Pos} (hc : PTD X c tc) (ha : PSsD X a t) (hb : PSsD X b u) : PSD X (.If c a b pos) (dIfS tc t u) :=
  PS.impI (ps_if hc ha hb) fun _ _ σ H E _ ⟨η, G, F, hs, hr, t, k⟩ => ⟨η, G, _, hs, hr, t, fun c G1 H1 p1 x1 r1 => by
    by_cases hc : c = true
    · subst hc
      rw [if_pos rfl] at p1 ⊢
      exact ⟨η, G1, F, hs.ext hr x1, r1, p1, k.ext x1⟩
    · rw [if_neg hc] at p1 ⊢
      exact ⟨η, G1, F, hs.ext hr x1, r1, p1, k.ext x1⟩⟩
def zcp : DTS := fun _ _ _ => False
theorem zbn [Bs] {st : Stmt} : PSD X st zcp := PS.impI ps_never fun _ _ σ H E _ ⟨η, G, F, hs, hr, t, k⟩ => t
def zab (i : Nat) : DTG := fun d η G Q => Q (η.set i (some d)) G
theorem zzz (σ : L2.St) (i : Nat) (o : Option V) : wipe (σ.set i o) [i] = wipe σ [i] := by
  unfold wipe wipe
  rw [List.set_set]
theorem zaf [Bs] {i : Nat} {x : Str} {pos : Pos} (hN : X.N.Nodup) (hi : X.N[i]? = some x) (hx : Loc X.env.scope x) (hf : X.fn x = true ∨ X.env.scope.names.lookup x = some .local := by first | exact .inl rfl | exact .inr rfl | assumption) : PGD X (.Name x pos) [i] (zab i) :=
  PG.impI (pg_name hN hi hx hf) fun _ _ σ H v Q _ ⟨d, η, G, P, q, hs, hr, t, k⟩ => k _ G _ H t (.refl _ _) (hs.set i q) hr (zzz _ _ _)
def zkl : DTGs := fun ds η G Q => match ds with
  | [] => Q η G
  | _ => False
def zc1 (t : DTG) (u : DTGs) : DTGs := fun ds η G Q => match ds with
  | d :: r => t d η G fun η' G' => u r η' G' Q
  | [] => False
theorem zji [Bs] : PGsD X [] [] zkl := PGs.impI pgs_nil fun _ _ σ H vs Q _ ⟨ds, η, G, P, q, hs, hr, t, k⟩ => by
  cases ds with
  | nil => exact ⟨q.nil_of, k η G σ H t (.refl _ _) hs hr rfl⟩
  | cons d ds => exact t.elim
theorem zr9 (σ : L2.St) (js : List Nat) : ∀ is : List Nat, wipe σ (is ++ js) = wipe (wipe σ js) is
  | [] => rfl
  | i :: is => by
    show (wipe σ (is ++ js)).set i none = (wipe (wipe σ js) is).set i none
    rw [zr9 σ js is]
theorem zre (σ : L2.St) (i : Nat) : ∀ js : List Nat, wipe (σ.set i none) js = (wipe σ js).set i none
  | [] => rfl
  | j :: js => by
    show (wipe (σ.set i none) js).set j none = ((wipe σ js).set j none).set i none
    rw [zre σ i js]
    by_cases h : i = j
    · subst h; rfl
    · rw [List.set_comm _ _ h]
theorem zpv (σ : L2.St) (js : List Nat) : ∀ is : List Nat, wipe (wipe σ js) is = wipe (wipe σ is) js
  | [] => rfl
  | i :: is => by
    show (wipe (wipe σ js) is).set i none = wipe ((wipe σ is).set i none) js
    rw [zpv σ js is, zre]
theorem zxh {a b c : L2.St} {is js : List Nat} (h1 : wipe b is = wipe a is) (h2 : wipe c js = wipe b js) : wipe c (is ++ js) = wipe a (is ++ js) := by
  rw [zr9, zr9, h2, zpv b, h1, zpv]
theorem zbg [Bs] {e : Expr} {es : List Expr} {is js : List Nat} {t : DTG} {u : DTGs} (h1 : PGD X e is t) (h2 : PGsD X es js u)
    (hs : (assignEach (e :: es) X.env).map (·.2) = assign e X.env :: (assignEach es X.env).map (·.2) := by rfl) : PGsD X (e :: es) (is ++ js) (zc1 t u) :=
  PGs.impI (pgs_cons h1 h2 hs) fun _ _ σ H vs Q _ ⟨ds, η, G, P, q, hs, hr, t, k⟩ => by
    cases ds with
    | nil => exact t.elim
    | cons d ds =>
      obtain ⟨v, r, rfl, q1, q2⟩ := q.uncons
      exact ⟨v, r, rfl, d, η, G, _, q1, hs, hr, t, fun η1 G1 σ1 H1 p1 x1 s1 r1 w1 => ⟨ds, η1, G1, P, q2.ext hr x1, s1, r1, p1, fun η2 G2 σ2 H2 p2 x2 s2 r2 w2 => k η2 G2 σ2 H2 p2 (x1.trans x2) s2 r2 (zxh w1 w2)⟩⟩
def zkw (t : DTGs) (n : Nat) : DTG := fun d η G Q => match d with
  | .nd .tup ds => ds.length = n ∧ t ds η G Q
  | _ => False
theorem zmf [Bs] {es : List Expr} {is : List Nat} {k : Nat} {t : DTGs} {n : Nat} {pos : Pos} (hc : X.calm = true) (h : PGsD X es is t)
    (hn : (assignEach es X.env).length = n := by rfl) (hst : (assignEach es X.env).findIdx? (·.1) = none := by rfl) : PGD X (.Tuple es k pos) is (zkw t n) :=
  PG.impI (pg_tup hc h hn hst) fun _ _ σ H v Q _ ⟨d, η, G, P, q, hs, hr, t, k⟩ => by
    cases d with
    | nd kd ds =>
      cases kd with
      | tup =>
        rw [VR] at q
        obtain ⟨a, vs, rfl, hh, q⟩ := q
        obtain ⟨hl, t⟩ := t
        exact ⟨a, vs, rfl, hh, q.length.trans hl, ds, η, G, P, q, hs, hr, t, k⟩
      | _ => exact t.elim
    | _ => exact t.elim
def dAsg (T : DTE) (g : DTG) : DTS := fun F η G => T η G fun d G1 => g d η G1 F.nx
theorem zx6 [Bs] {tg e : Expr} {T : DTE} {is : List Nat} {g : DTG} {pos : Pos} (he : PED X e T) (hg : PGD X tg is g) (hs : swapsWithSole [tg] e pos.line X.env = pure false := by rfl) (hw : swappedStores [tg] e X.env = pure none := by rfl)
    (h1 : (assignEach [tg] X.env).map (·.2) = [assign tg X.env] := by rfl) : PSD X (.Assign [tg] e pos) (dAsg T g) :=
  PS.impI (ps_asg he hg hs hw h1) fun _ _ σ H E _ ⟨η, G, F, hs, hr, t, k⟩ => ⟨η, G, _, hs, hr, t, fun d G1 v H1 p1 x1 r1 q1 =>
    ⟨d, η, G1, _, q1, hs.ext hr x1, r1, p1, fun η2 G2 σ2 H2 p2 x2 s2 r2 w2 => k.nx η2 G2 σ2 H2 p2 (x1.trans x2) s2 r2⟩⟩
theorem zd1 [Bs] {i : Nat} {x : Str} {e : Expr} {T : DTE} {pos pos' : Pos} (hN : X.N.Nodup) (hi : X.N[i]? = some x) (hx : Loc X.env.scope x) (he : PED X e T) (hs : swapsWith e (some (.Name x pos')) pos.line X.env = pure false := by rfl) (hf : X.fn x = true ∨ X.env.scope.names.lookup x = some .local := by first | exact .inl rfl | exact .inr rfl | assumption) :
    PSD X (.Assign [.Name x pos'] e pos) (dAsg T (zab i)) :=
  PS.impI (ps_set hN hi hx he hs hf) fun _ _ σ H E _ ⟨η, G, F, hs, hr, t, k⟩ => ⟨η, G, _, hs, hr, t, fun d G1 v H1 p1 x1 r1 q1 =>
    k.nx _ G1 _ H1 p1 x1 ((hs.ext hr x1).set i q1) r1⟩
/-- a, b = x, y -/
def dPar (i j : Nat) (T : DTA) : DTS := fun F η G => T η G fun ds G1 => match ds with
  | [d, e] => F.nx ((η.set i (some d)).set j (some e)) G1
  | _ => False
theorem zvy [Bs] {i j : Nat} {x y : Str} {a b : Expr} {T : DTA} {px py pt pos : Pos} {kt k2 pt2} (hc : X.calm = true) (hN : X.N.Nodup) (hi : X.N[i]? = some x) (hj : X.N[j]? = some y) (hij : i ≠ j)
    (hx : X.env.scope.names.lookup x = some .local) (hy : X.env.scope.names.lookup y = some .local) (ha : PAD X [a, b] T)
    (hw : swappedStores [.Tuple [.Name x px, .Name y py] kt pt] (.Tuple [a, b] k2 pt2) X.env = pure (some [x, y]))
    (hs : swapsWithSole [.Tuple [.Name x px, .Name y py] kt pt] (.Tuple [a, b] k2 pt2) pos.line X.env = pure false := by rfl) :
    PSD X (.Assign [.Tuple [.Name x px, .Name y py] kt pt] (.Tuple [a, b] k2 pt2) pos) (dPar i j T) :=
  PS.impI (ps_par hc hN hi hj hij hx hy ha hw hs) fun _ _ σ H E _ ⟨η, G, F, hs, hr, t, k⟩ => ⟨η, G, _, hs, hr, t, fun ds G1 vs H1 p1 x1 r1 q1 => by
    match ds, p1, q1 with
    | [d, e], p1, q1 =>
      obtain ⟨v, r, rfl, a1, q2⟩ := q1.uncons
      obtain ⟨w, r', rfl, a2, q3⟩ := q2.uncons
      rw [q3.nil_of]
      exact ⟨v, w, rfl, k.nx _ G1 _ H1 p1 x1 (((hs.ext hr x1).set i a1).set j a2) r1⟩
    | [], p1, _ => exact p1.elim
    | [_], p1, _ => exact p1.elim
    | _ :: _ :: _ :: _, p1, _ => exact p1.elim⟩
/-- the object in a slot is changed no more -/
def dFrz (i : Nat) (t : DTS) : DTS := fun F η G => match η[i]? with
  | some (some (.ref a)) => match G a with
    | some o => t F (η.set i (some o.tree)) (dl G a)
    | none => False
  | _ => False
theorem zws [Bs] {sts : List Stmt} {t : DTS} (i : Nat) (h : PSsD X sts t) : PSsD X sts (dFrz i t) := ⟨fun pins s σ H E I ⟨η, G, F, hs, hr, t, k⟩ => by
    unfold dFrz at t
    split at t
    · rename_i a e
      split at t
      · rename_i o ho
        obtain ⟨v, q, r⟩ := hs.2 i _ e
        rw [VR] at r
        subst r
        obtain ⟨H2, f, I2⟩ := Inv.fz I hr ho
        obtain ⟨t1, t2, t3⟩ := hr.tree ho f
        have s2 : SR X.ml H2 (dl G a) σ (η.set i (some o.tree)) := by
          have z := (hs.ext hr t2).set i t1
          have e2 : σ.set i (some (V.ref a)) = σ := by
            refine List.ext_getElem? fun j => ?_
            by_cases hj : i = j
            · subst hj
              rw [List.getElem?_set_self (List.getElem?_eq_some_iff.mp q).1, q]
            · rw [List.getElem?_set_ne hj]
          rw [e2] at z; exact z
        exact h.run pins s σ H2 E I2 ⟨_, _, F, s2, t3, t, k.ext t2⟩
      · exact t.elim
    · exact t.elim⟩
end
end DL
namespace DL
open PySem PySem.Spec PyProof.Rows L2
abbrev DTI := DSt → DHp → (List D → (DHp → Prop) → DHp → Prop) → Prop
/-- the walk J gives the items ds, as long as ok holds -/
def ItD (K : Ml) (H1 : Hp) (G1 : DHp) (J : It) (ds : List D) (ok : DHp → Prop) : Prop :=
  ∀ i H G, Ext H1 G1 H G → HR K H G → ok G →
    (∀ d, ds[i]? = some d → J.go i H ∧ ∀ x H', J.yld i H x H' → Ext H G H' G ∧ HR K H' G ∧ VR K H' G d x) ∧ (ds.length ≤ i → J.stop i H)
def z36 [Bs] (K : Ml) (T : DTI) : TI := fun σ H R => ∃ η G P, SR K H G σ η ∧ HR K H G ∧ T η G P ∧
  ∀ ds ok G' J H', P ds ok G' → Ext H G H' G' → HR K H' G' → ItD K H' G' J ds ok → R J H'
abbrev PID [Bs] (X : Cx) (tg it : Expr) (T : DTI) : Prop := PI X tg it (z36 X.ml T)
def zco : DHp → Prop := fun _ => True
section
variable {X : Cx} {tg : Expr}
theorem Itl.itD {K : Ml} {H1 : Hp} {G1 : DHp} {a : Addr} {ds : List D} {ok : DHp → Prop} (h : ∀ H G, Ext H1 G1 H G → HR K H G → ok G → ∃ vs, SqL K.K H a vs ∧ VRs K H G ds vs) : ItD K H1 G1 (Itl K.K a) ds ok := by
  intro i H G x r o
  obtain ⟨vs, q, v⟩ := h H G x r o
  refine ⟨fun d e => ?_, fun l => ⟨vs, q, by rw [v.length]; exact l⟩⟩
  obtain ⟨u, e2, q2⟩ := v.get e
  refine ⟨⟨vs, u, q, e2⟩, fun y H' ⟨e3, e4⟩ => ?_⟩
  subst e3
  have e5 := e4 vs q
  rw [e2] at e5; cases e5
  exact ⟨.refl _ _, r, q2⟩
theorem Itt.itD {K : Ml} {H1 : Hp} {G1 : DHp} {a : Addr} {ds : List D} {ok : DHp → Prop} (h : ∀ H G, Ext H1 G1 H G → HR K H G → ok G → ∃ vs, SqT K.K H a vs ∧ VRs K H G ds vs) : ItD K H1 G1 (Itt K.K a) ds ok := by
  intro i H G x r o
  obtain ⟨vs, q, v⟩ := h H G x r o
  refine ⟨fun d e => ?_, fun l => ⟨vs, q, by rw [v.length]; exact l⟩⟩
  obtain ⟨u, e2, q2⟩ := v.get e
  refine ⟨⟨vs, u, q, e2⟩, fun y H' ⟨e3, e4⟩ => ?_⟩
  subst e3
  have e5 := e4 vs q
  rw [e2] at e5; cases e5
  exact ⟨.refl _ _, r, q2⟩
/-- a list or a tuple -/
def zgr (T : DTE) : DTI := fun η G R => T η G fun d G1 => match d with
  | .nd .tup ds => R ds zco G1
  | .nd .lst ds => R ds zco G1
  | .nd .scr ds => R ds zco G1
  | .ref a => (match G1 a with
    | some (.lst ds) => R ds (fun G => G a = some (.lst ds)) G1
    | _ => False)
  | _ => False
theorem zci {K : Ml} {H : Hp} {G : DHp} {k : Kd} {a : Addr} {vs : List V} (h : Held K H G k a vs) (hk : k = .lst ∨ k = .scr) : SqL K.K H a vs := by
  rcases hk with rfl | rfl
  · exact .inl (.inl h.2)
  · rcases h with ⟨o, h⟩ | h
    · exact .inl (.inr ⟨o, h⟩)
    · exact .inr h
theorem zgw [Bs] {l : Expr} {T : DTE} (hl : PED X l T) : PID X tg l (zgr T) := by
  refine ⟨fun pins s σ H R I ⟨η, G, P, hs, hr, t, k⟩ => ?_⟩
  refine thn (hl.run pins s σ H (fun v H1 => ∃ d G1, (match d with
    | .nd .tup ds => P ds zco G1
    | .nd .lst ds => P ds zco G1
    | .nd .scr ds => P ds zco G1
    | .ref a => (match G1 a with
      | some (.lst ds) => P ds (fun G => G a = some (.lst ds)) G1
      | _ => False)
    | _ => False) ∧ Ext H G H1 G1 ∧ HR X.ml H1 G1 ∧ VR X.ml H1 G1 d v) I ⟨η, G, _, hs, hr, t, fun d G1 v H1 p x r q => ⟨d, G1, p, x, r, q⟩⟩) fun u s1 ⟨v, H1, I1, rv, d, G1, p, x, r, q⟩ => ?_
  have doL : ∀ (a : Addr) (ds : List D) (ok : DHp → Prop), v = .ref a → P ds ok G1 → ok G1 → (∀ H G, Ext H1 G1 H G → HR X.ml H G → ok G → ∃ vs, SqL X.K H a vs ∧ VRs X.ml H G ds vs) →
      wpAny (model X.prog X.w) X.A (pyIter u) (PIE X pins σ tg R) X.xe s1 := by
    intro a ds ok e p1 o1 hh
    subst e
    cases rv
    obtain ⟨vs, hq, _⟩ := hh H1 G1 (.refl _ _) r o1
    have hp : PI X tg (.Constant .none 0 ⟨0, 0, 0, 0⟩) (fun σ H R => R (Itl X.K a) H) → True := fun _ => trivial
    obtain ⟨its, rv2, p2, hz⟩ := I1.list hq
    refine wpAny_pyIter_list p2.isList ?_
    refine ⟨s1.heap.objs.size, [s1.heap.objs.size], _, _, H1, rfl, I1.kept (t' := s1.toks) fun b o e => Heap.get?_push_of_some _ e, turn_list a _, ⟨_, Heap.get?_push_size _ rfl, rfl, rfl⟩, fun b hb => ?_, k ds ok G1 _ H1 p1 x r (Itl.itD hh)⟩
    have e : b = s1.heap.objs.size := by simpa using hb
    subst e
    exact I1.fpOk (Nat.le_refl _) (I1.hok.fresh (Nat.le_refl _))
  cases d with
  | nd kd ds =>
    cases kd with
    | tup =>
      rw [VR] at q
      obtain ⟨a, vs, rfl, hq, vr⟩ := q
      cases rv
      obtain ⟨its, rv2, p2, hz⟩ := I1.tuple hq
      refine wpAny_pyIter_tuple (show s1.heap.IsTuple a its.toArray from p2) ?_
      refine ⟨s1.heap.objs.size, [s1.heap.objs.size], _, _, H1, rfl, I1.kept (t' := s1.toks) fun b o e => Heap.get?_push_of_some _ e, turn_tuple a _, ⟨_, Heap.get?_push_size _ rfl, rfl, rfl⟩, fun b hb => ?_,
        k ds zco G1 _ H1 p x r (Itt.itD fun H' G' x' r' _ => ⟨vs, Held.ext (k := .tup) r x' hq, vr.ext r x'⟩)⟩
      have e : b = s1.heap.objs.size := by simpa using hb
      subst e
      exact I1.fpOk (Nat.le_refl _) (I1.hok.fresh (Nat.le_refl _))
    | lst =>
      rw [VR] at q
      obtain ⟨a, vs, e, hq, vr⟩ := q
      exact doL a ds zco e p trivial fun H' G' x' r' _ => ⟨vs, zci (hq.ext r x') (.inl rfl), vr.ext r x'⟩
    | scr =>
      rw [VR] at q
      obtain ⟨a, vs, e, hq, vr⟩ := q
      exact doL a ds zco e p trivial fun H' G' x' r' _ => ⟨vs, zci (hq.ext r x') (.inr rfl), vr.ext r x'⟩
    | _ => exact p.elim
  | ref a =>
    rw [VR] at q
    cases e : G1 a with
    | none =>
      have p : (match G1 a with | some (.lst ds) => P ds (fun G => G a = some (.lst ds)) G1 | _ => False) := p
      rw [e] at p; exact p.elim
    | some o =>
      have p : (match G1 a with | some (.lst ds) => P ds (fun G => G a = some (.lst ds)) G1 | _ => False) := p
      rw [e] at p
      cases o with
      | lst ds => exact doL a ds _ q p e fun H' G' x' r' o => let ⟨vs, z, w⟩ := r' a _ o; ⟨vs, .inl (.inl z), w⟩
      | _ => exact p.elim
  | _ => exact p.elim
/-- lo, lo + 1, .. below hi -/
def zfw (lo hi : Int) : List Int := (List.range (hi - lo).toNat).map fun (k : Nat) => lo + (k : Int)
theorem Itr.itD {K : Ml} {H1 : Hp} {G1 : DHp} {lo hi : Int} : ItD K H1 G1 (Itr lo (hi - lo).toNat) ((zfw lo hi).map D.int) zco := by
  intro i H G x r o
  have hl : ((zfw lo hi).map D.int).length = (hi - lo).toNat := by simp [zfw]
  refine ⟨fun d e => ?_, fun l => by rw [hl] at l; exact l⟩
  have hi' : i < (hi - lo).toNat := by rw [← hl]; exact (List.getElem?_eq_some_iff.mp e).1
  refine ⟨hi', fun y H' ⟨e3, e4⟩ => ?_⟩
  subst e3 e4
  refine ⟨.refl _ _, r, ?_⟩
  have : d = D.int (lo + (i : Int)) := by
    simp only [zfw, List.map_map, List.getElem?_map, List.getElem?_range hi', Option.map_some, Function.comp, Option.some.injEq] at e
    exact e.symm
  subst this
  rw [VR]
def zk6 (T : DTA) : DTI := fun η G R => T η G fun ds G1 => match ds with
  | [.int j] => (-(2 ^ 62) ≤ j ∧ j < 2 ^ 62) ∧ R ((zfw 0 j).map D.int) zco G1
  | _ => False
theorem znw [Bs] {a : Expr} {T : DTA} {p pos : Pos} (hm : X.mg "range" = none) (ha : PAD X [a] T) (hg : Gl X "range" := by rfl) (hs : starEach [a] X.env = [(false, eval a X.env)] := by rfl) : PID X tg (.Call (.Name "range" p) [a] [] pos) (zk6 T) := by
  refine ⟨fun pins s σ H R I ⟨η, G, P, hs', hr, t, k⟩ => (pi_range1 hg hm ha hs).run pins s σ H R I ⟨η, G, _, hs', hr, t, fun ds G1 vs H1 p x r q => ?_⟩⟩
  match ds, p, q with
  | [.int j], ⟨⟨h1, h2⟩, p⟩, q =>
    obtain ⟨v, w, rfl, q1, q2⟩ := q.uncons
    rw [VR] at q1; subst q1
    rw [q2.nil_of]
    refine ⟨j, rfl, h1, h2, ?_⟩
    have := k _ zco G1 (Itr 0 (j - 0).toNat) H1 p x r Itr.itD
    simpa using this
def zg4 (T : DTA) : DTI := fun η G R => T η G fun ds G1 => match ds with
  | [.int i, .int j] => (-(2 ^ 62) ≤ i ∧ i < 2 ^ 62 ∧ -(2 ^ 62) ≤ j ∧ j < 2 ^ 62) ∧ R ((zfw i j).map D.int) zco G1
  | _ => False
theorem zlf [Bs] {a b : Expr} {T : DTA} {p pos : Pos} (hm : X.mg "range" = none) (ha : PAD X [a, b] T) (hg : Gl X "range" := by rfl) (hs : starEach [a, b] X.env = [(false, eval a X.env), (false, eval b X.env)] := by rfl) (hs2 : starEach [b] X.env = [(false, eval b X.env)] := by rfl) :
    PID X tg (.Call (.Name "range" p) [a, b] [] pos) (zg4 T) := by
  refine ⟨fun pins s σ H R I ⟨η, G, P, hs', hr, t, k⟩ => (pi_range2 hg hm ha hs hs2).run pins s σ H R I ⟨η, G, _, hs', hr, t, fun ds G1 vs H1 p x r q => ?_⟩⟩
  match ds, p, q with
  | [.int i, .int j], ⟨h1, p⟩, q =>
    obtain ⟨v, w, rfl, q1, q2⟩ := q.uncons
    rw [VR] at q1; subst q1
    obtain ⟨v, w, rfl, q1, q3⟩ := q2.uncons
    rw [VR] at q1; subst q1
    rw [q3.nil_of]
    exact ⟨i, j, rfl, h1, k _ zco G1 (Itr i (j - i).toNat) H1 p x r Itr.itD⟩
/-- what is known may be less -/
def Wk (W : DSt → DHp → Prop) : DSt → DHp → Prop := fun η G => ∃ η0, Le η0 η ∧ W η0 G
def dFor (wi : DTI) (g : DTG) (tb : DTS) : DTS := fun F η G => wi η G fun ds ok G1 => ∃ W : Nat → DSt → DHp → Prop, W 0 η G1 ∧ (∀ i η G, W i η G → ok G) ∧
  (∀ i d η G, ds[i]? = some d → W i η G → g d η G fun η2 G2 => tb { F with nx := Wk (W (i + 1)), ct := Wk (W (i + 1)), bk := F.nx } η2 G2) ∧ ∀ η G, W ds.length η G → F.nx η G
theorem zij [Bs] {iter : Expr} {body : List Stmt} {wi : DTI} {is : List Nat} {g : DTG} {tb : DTS} {pos : Pos} (hp : PassesOwn (model X.prog X.w) X.A X.env X.xe) (hc : X.calm = true) (hi : PID X tg iter wi) (hg : PGD X tg is g) (hb : PSsD X body tb)
    (hs : ∀ x, foldedSetIterable iter X.env x = pure x := by intro _; rfl) : PSD X (.For tg iter body [] pos) (dFor wi g tb) :=
  PS.impI (ps_for hp hc hi hg hb hs) fun _ _ σ H E _ ⟨η, G, F, hs, hr, t, k⟩ => ⟨η, G, _, hs, hr, t, fun ds ok G1 J H1 p x r it => by
    obtain ⟨W, w0, wok, step, fin⟩ := p
    refine ⟨fun i m σ' H' => m = ds.length - i ∧ i ≤ ds.length ∧ ∃ η' G', W i η' G' ∧ Ext H1 G1 H' G' ∧ SR X.ml H' G' σ' η' ∧ HR X.ml H' G',
      ⟨ds.length, by simp, Nat.zero_le _, η, G1, w0, .refl _ _, hs.ext hr x, r⟩, ?_⟩
    rintro i m σ1 H2 ⟨rfl, hle, η1, G2, w1, x1, s1, r1⟩
    obtain ⟨a1, a2⟩ := it i H2 G2 x1 r1 (wok _ _ _ w1)
    by_cases hlt : i < ds.length
    · have e : ds[i]? = some ds[i] := by simp [hlt]
      obtain ⟨go, yl⟩ := a1 _ e
      refine .inr ⟨go, fun σ' H' => ∃ η' G', Wk (W (i + 1)) η' G' ∧ Ext H1 G1 H' G' ∧ SR X.ml H' G' σ' η' ∧ HR X.ml H' G', fun σ' H' ⟨η', G', ⟨η0, l, w⟩, x', s', r'⟩ => ⟨_, by omega, rfl, hlt, η0, G', w, x', s'.le l, r'⟩, fun y H3 hy => ?_⟩
      obtain ⟨x3, r3, v3⟩ := yl y H3 hy
      refine ⟨_, η1, G2, _, v3, s1.ext r1 x3, r3, step i _ η1 G2 e w1, fun η4 G4 σ4 H4 p4 x4 s4 r4 _ => ⟨η4, G4, _, s4, r4, p4, ?_⟩⟩
      have x5 : Ext H1 G1 H4 G4 := (x1.trans x3).trans x4
      exact ⟨fun η' G' σ' H' p y s r => ⟨η', G', p, x5.trans y, s, r⟩, fun d G' v H' p y r q => k.rt d G' v H' p ((x.trans x5).trans y) r q, fun η' G' σ' H' p y s r => k.nx η' G' σ' H' p ((x.trans x5).trans y) s r,
        fun η' G' σ' H' p y s r => ⟨η', G', p, x5.trans y, s, r⟩⟩
    · have e : i = ds.length := by omega
      subst e
      exact .inl ⟨a2 (Nat.le_refl _), k.nx η1 G2 σ1 H2 (fin _ _ w1) (x.trans x1) s1 r1⟩⟩
end
def zks (η : DSt) : List Nat → DSt
  | [] => η
  | v :: vs => (zks η vs).set v none
section
variable {X : Cx} {tg : Expr}
theorem SR.wipe [Bs] {K : Ml} {H : Hp} {G : DHp} {σ : L2.St} {η : DSt} (h : SR K H G σ η) : ∀ vs : List Nat, SR K H G (wipe σ vs) (zks η vs)
  | [] => h
  | v :: vs => SR.none (SR.wipe h vs) v Option.none
/-- a clause's tests -/
abbrev PTsD [Bs] (X : Cx) (ifs : List Expr) (T : DTT) : Prop := PTs X ifs (zyy X.ml T)
def dYes : DTT := fun _ G Q => Q true G
theorem ze0 [Bs] : PTsD X [] dYes := ⟨fun pins s σ H Q I ⟨η, G, P, hs, hr, t, k⟩ => pts_nil.run pins s σ H Q I (k true G H t (.refl _ _) hr)⟩
/-- [elt for tg in iter if ..] -/
def dLc (wi : DTI) (g : DTG) (tt : DTT) (te : DTE) (own : List Nat) : DTE := fun η G Q => wi η G fun ds ok G1 => ∀ p, G1 p = none → ∃ W : Nat → List D → DHp → Prop, W 0 [] (up G1 p (.lst [])) ∧ (∀ i acc G, W i acc G → ok G ∧ G p = some (.lst acc)) ∧
  (∀ i d acc G, ds[i]? = some d → W i acc G → g d (zks η own) G fun η2 G2 => tt η2 G2 fun b G3 => if b = true then te η2 G3 fun y G4 => acc.length < sizeLine ∧ G4 p = some (.lst acc) ∧ W (i + 1) (acc ++ [y]) (up G4 p (.lst (acc ++ [y]))) else W (i + 1) acc G3) ∧
  ∀ acc G, W ds.length acc G → Q (.ref p) G
theorem z0r {a b : L2.St} {is vs : List Nat} (h : wipe b is = wipe a is) (hl : ∀ i ∈ is, i ∈ vs) (ha : a.length = b.length) : wipe b vs = wipe a vs := by
  have get : ∀ (σ : L2.St) (vs : List Nat) (j : Nat), (wipe σ vs)[j]? = if j ∈ vs then (if j < σ.length then some none else none) else σ[j]? := by
    intro σ vs j
    induction vs with
    | nil => simp [wipe]
    | cons v vs ih =>
      unfold wipe
      by_cases hj : v = j
      · subst hj
        by_cases hlt : v < σ.length
        · rw [List.getElem?_set_self (by rw [wipe_length]; exact hlt)]
          simp [hlt]
        · rw [List.getElem?_eq_none (by rw [List.length_set, wipe_length]; omega)]
          simp [hlt]
      · rw [List.getElem?_set_ne hj, ih]
        have : j ≠ v := Ne.symm hj
        simp [this]
  refine List.ext_getElem? fun j => ?_
  rw [get, get]
  by_cases hj : j ∈ vs
  · simp [hj, ha]
  · have hi : j ∉ is := fun q => hj (hl j q)
    have e := congrArg (fun l => l[j]?) h
    simp only [get, hi, if_false] at e
    simp [hj, e]
theorem zx4 (σ : L2.St) (own : List Nat) : wipe (wipe σ own) own = wipe σ own := by
  refine List.ext_getElem? fun j => ?_
  by_cases hj : j ∈ own
  · have h1 : ∀ (vs : List Nat) (s : L2.St), j ∈ vs → (wipe s vs)[j]? = if j < s.length then some none else none := by
      intro vs s hm
      induction vs with
      | nil => cases hm
      | cons v vs ih =>
        unfold wipe
        by_cases e : v = j
        · subst e
          by_cases hlt : v < s.length
          · rw [List.getElem?_set_self (by rw [wipe_length]; exact hlt), if_pos hlt]
          · rw [List.getElem?_eq_none (by rw [List.length_set, wipe_length]; omega), if_neg hlt]
        · rw [List.getElem?_set_ne e, ih ((List.mem_cons.mp hm).resolve_left fun q => e q.symm)]
    rw [h1 own _ hj, h1 own _ hj, wipe_length]
  · rw [wipe_out hj]
theorem z23 [Bs] {K : Ml} {wi : DTI} {g : DTG} {tt : DTT} {te : DTE} {own is : List Nat} {σ : L2.St} {H : Hp} {Q : VK} (hsub : ∀ i ∈ is, i ∈ own) (h : zoq K (dLc wi g tt te own) σ H Q) :
    tLc (z36 K wi) (z4i K is g) (zyy K tt) (zoq K te) own σ H Q := by
  obtain ⟨η, G, P, hs, hr, t, k⟩ := h
  refine ⟨η, G, _, hs, hr, t, fun ds ok G1 J H1 pp x r it => ?_⟩
  intro D hD
  have gD : G1 D = none := r.free hD
  obtain ⟨W, w0, wok, step, fin⟩ := pp D gD
  have xD : Ext H1 G1 (upd H1 D (.lst [])) (up G1 D (.lst [])) := .new hD
  have rD : HR K (upd H1 D (.lst [])) (up G1 D (.lst [])) := r.new hD ⟨[], upd_same, .nil⟩
  refine ⟨fun i m H' => m = ds.length - i ∧ i ≤ ds.length ∧ ∃ acc G', W i acc G' ∧ Ext H1 G1 H' G' ∧ HR K H' G',
    ⟨ds.length, by simp, Nat.zero_le _, [], _, w0, xD, rD⟩, ?_⟩
  rintro i m H2 ⟨rfl, hle, acc, G2, w1, x1, r1⟩
  obtain ⟨a1, a2⟩ := it i H2 G2 x1 r1 (wok _ _ _ w1).1
  by_cases hlt : i < ds.length
  · have e : ds[i]? = some ds[i] := by simp [hlt]
    obtain ⟨go, yl⟩ := a1 _ e
    refine .inr ⟨go, fun H' => ∃ acc G', W (i + 1) acc G' ∧ Ext H1 G1 H' G' ∧ HR K H' G', fun H' ⟨acc', G', z⟩ => ⟨_, by omega, rfl, hlt, acc', G', z⟩, fun y H3 hy => ?_⟩
    obtain ⟨x3, r3, v3⟩ := yl y H3 hy
    have s3 : SR K H3 G2 (wipe σ own) (zks η own) := ((hs.ext hr x).ext r (x1.trans x3)).wipe own
    refine ⟨_, zks η own, G2, _, v3, s3, r3, step i _ acc G2 e w1, fun η4 G4 σ4 H4 p4 x4 s4 r4 wp => ⟨?_, η4, G4, _, s4, r4, p4, fun b G5 H5 p5 x5 r5 => ?_⟩⟩
    · have hlen : (wipe σ own).length = σ4.length := by
        have := congrArg List.length wp
        rw [wipe_length, wipe_length] at this
        exact this.symm
      rw [z0r (vs := own) wp hsub hlen]
      exact zx4 _ _
    · by_cases hb : b = true
      · subst hb
        rw [if_pos rfl] at p5 ⊢
        refine ⟨η4, G5, _, s4.ext r4 x5, r5, p5, fun dy G6 vy H6 ⟨hz, hp6, w6⟩ x6 r6 q6 => ?_⟩
        obtain ⟨vs, hv6, ha⟩ := r6 D _ hp6
        have xx : Ext H2 G2 H6 G6 := ((x3.trans x4).trans x5).trans x6
        have xw : Ext H6 G6 (upd H6 D (.lst (vs ++ [vy]))) (up G6 D (.lst (acc ++ [dy]))) := .write hp6
        refine ⟨vs, hv6, by rw [ha.length]; exact hz, acc ++ [dy], _, w6, (x1.trans xx).trans xw, r6.write hp6 ⟨_, upd_same, ?_⟩⟩
        exact (ha.ext r6 xw).append (.cons (q6.ext r6 xw) .nil)
      · rw [if_neg hb] at p5 ⊢
        exact ⟨acc, G5, p5, x1.trans ((x3.trans x4).trans x5), r5⟩
  · have e : i = ds.length := by omega
    subst e
    exact .inl ⟨a2 (Nat.le_refl _), k (.ref D) G2 (.ref D) H2 (fin _ _ w1) (x.trans x1) r1 (by rw [VR])⟩
theorem zj2 [Bs] {elt tg iter : Expr} {ifs : List Expr} {scope : Scope} {own : List (Str × Nat)} {is : List Nat} {pos : Pos} {wi : DTI} {g : DTG} {tt : DTT} {te : DTE} (hc : X.calm = true) (hN : X.N.Nodup) (hi : PID X tg iter wi) (ok : BlkOk X.N X.env.scope scope own)
    (hg : ∀ (s : Shared) (H : Hp) (C : Addr) (cl : List (Str × Addr)) (fp : List Addr), PGD (X.blk s H scope (compEnvC scope cl C X.env) fp) tg is g) (ht : ∀ (s : Shared) (H : Hp) (C : Addr) (cl : List (Str × Addr)) (fp : List Addr), PTsD (X.blk s H scope (compEnvC scope cl C X.env) fp) ifs tt)
    (he : ∀ (s : Shared) (H : Hp) (C : Addr) (cl : List (Str × Addr)) (fp : List Addr), PED (X.blk s H scope (compEnvC scope cl C X.env) fp) elt te) (hsub : ∀ i ∈ is, i ∈ own.map (·.2) := by decide) (hs : ∀ x, foldedSetIterable iter X.env x = pure x := by intro _; rfl) :
    PED X (.ListComp elt [⟨tg, iter, ifs, 0⟩] scope pos) (dLc wi g tt te (own.map (·.2))) :=
  PE.impI (pe_lc hc hN hi ok hg ht he hs) fun _ _ _ _ _ _ h => z23 hsub h
end
end DL
namespace DL
open PySem PySem.Spec PyProof.Rows L2
mutual
def py : D → PyData
  | .non => .none
  | .bl b => .bool b
  | .int i => .int i
  | .str x => .str x
  | .ty _ => .none
  | .ref _ => .none
  | .nd .tup ds => .tuple (pys ds)
  | .nd .lst ds => .list (pys ds)
  | .nd .scr ds => .list (pys ds)
  | .nd _ _ => .none
def pys : List D → List PyData
  | [] => []
  | d :: ds => py d :: pys ds
end
mutual
def zb8 : D → Bool
  | .non => true
  | .bl _ => true
  | .int _ => true
  | .str _ => true
  | .nd .tup ds => plainDs ds
  | .nd .lst ds => plainDs ds
  | .nd .scr ds => plainDs ds
  | _ => false
def plainDs : List D → Bool
  | [] => true
  | d :: ds => zb8 d && plainDs ds
end
section
variable {K : Ml} {H : Hp} {G : DHp}
mutual
theorem VR.dp : ∀ {d : D} {v : V}, VR K H G d v → zb8 d = true → Dp K.K H v (py d)
  | .non, _, h, _ => by rw [VR] at h; subst h; exact .non
  | .bl _, _, h, _ => by rw [VR] at h; subst h; exact .bl _
  | .int _, _, h, _ => by rw [VR] at h; subst h; exact .int _
  | .str _, _, h, _ => by rw [VR] at h; subst h; exact .str _
  | .ty _, _, _, p => by simp [zb8] at p
  | .ref _, _, _, p => by simp [zb8] at p
  | .nd .tup ds, _, h, p => by
    rw [VR] at h
    obtain ⟨a, vs, rfl, q, r⟩ := h
    rw [py]
    exact .tup q (VRs.dp r (by rw [zb8] at p; exact p))
  | .nd .lst ds, _, h, p => by
    rw [VR] at h
    obtain ⟨a, vs, rfl, q, r⟩ := h
    rw [py]
    exact .lst (zci q (.inl rfl)) (VRs.dp r (by rw [zb8] at p; exact p))
  | .nd .scr ds, _, h, p => by
    rw [VR] at h
    obtain ⟨a, vs, rfl, q, r⟩ := h
    rw [py]
    exact .lst (zci q (.inr rfl)) (VRs.dp r (by rw [zb8] at p; exact p))
  | .nd (.ins _ _) ds, _, _, p => by simp [zb8] at p
  | .nd (.dK _) ds, _, _, p => by simp [zb8] at p
  | .nd (.dN _) ds, _, _, p => by simp [zb8] at p
theorem VRs.dp : ∀ {ds : List D} {vs : List V}, VRs K H G ds vs → plainDs ds = true → DpAll K.K H vs (pys ds)
  | [], _, h, _ => by rw [h.nil_of, pys]; exact .nil
  | d :: ds, _, h, p => by
    obtain ⟨v, r, rfl, q, t⟩ := h.uncons
    rw [plainDs, Bool.and_eq_true] at p
    rw [pys]
    exact .cons (VR.dp q p.1) (VRs.dp t p.2)
end
/-- what is read at a value: a tracked list by its items -/
def der (d : D) (G : DHp) : D := match d with
  | .ref a => (match G a with
    | some (.lst ds) => .nd .lst ds
    | _ => .ref a)
  | d => d
theorem zsr {a : Addr} {G : DHp} : der (.ref a) G = (match G a with | some (.lst ds) => .nd .lst ds | _ => .ref a) := rfl
theorem z1g {a : Addr} {G : DHp} {ds : List D} (h : G a = some (.lst ds)) : der (.ref a) G = .nd .lst ds := by rw [zsr, h]
theorem zn7 (hr : HR K H G) {d : D} {v : V} (h : VR K H G d v) (p : zb8 (der d G) = true) : Dp K.K H v (py (der d G)) := by
  cases d with
  | ref a =>
    rw [VR] at h
    subst h
    rw [zsr] at p ⊢
    cases e : G a with
    | none => rw [e] at p; simp [zb8] at p
    | some o =>
      cases o with
      | lst ds =>
        rw [e] at p
        simp only at p ⊢
        obtain ⟨vs, q, r⟩ := hr a _ e
        rw [py]
        exact .lst (.inl (.inl q)) (r.dp (by rw [zb8] at p; exact p))
      | _ => rw [e] at p; simp [zb8] at p
  | _ => exact h.dp p
/-- a list, whatever way it is held -/
theorem zkm (hr : HR K H G) {d : D} {v : V} {ds : List D} (h : VR K H G d v) (e : der d G = .nd .lst ds) : ∃ a vs, v = .ref a ∧ H a = some (.lst vs) ∧ VRs K H G ds vs := by
  cases d with
  | ref a =>
    rw [VR] at h
    subst h
    rw [zsr] at e
    cases g : G a with
    | none => rw [g] at e; cases e
    | some o =>
      cases o with
      | lst ds' =>
        rw [g] at e
        simp only [D.nd.injEq, true_and] at e
        subst e
        obtain ⟨vs, q, r⟩ := hr a _ g
        exact ⟨a, vs, rfl, q, r⟩
      | _ => rw [g] at e; cases e
  | nd k ds' =>
    have e : D.nd k ds' = .nd .lst ds := e
    cases e
    rw [VR] at h
    obtain ⟨a, vs, rfl, q, r⟩ := h
    exact ⟨a, vs, rfl, q.2, r⟩
  | _ => cases e
end
section
variable {X : Cx}
/-- an operator by cases -/
theorem zkv {f : Value → Value → Sem Value} {r : DR2} (h : ∀ pins s σ H G x y v u dx dy P, Inv X pins σ H s → RelV x v → RelV y u → HR X.ml H G → VR X.ml H G dx x → VR X.ml H G dy y → r dx dy G P →
    wpAny (model X.prog X.w) X.A (f v u) (fun w s' => ∃ z d H' G', Inv X pins σ H' s' ∧ RelV z w ∧ P d G' ∧ Ext H G H' G' ∧ HR X.ml H' G' ∧ VR X.ml H' G' d z) X.xe s) : OpD X f r := by
  intro pins s σ H x y v u Q I rx ry ⟨dx, dy, G, P, hr, q1, q2, t, k⟩
  exact thn (h pins s σ H G x y v u dx dy P I rx ry hr q1 q2 t) fun w s' ⟨z, d, H', G', I', rz, p, x', r', q'⟩ => ⟨z, H', I', rz, k d G' z H' p x' r' q'⟩
/-- the end where nothing is made -/
theorem zbo {pins : List (Addr × Obj)} {σ : L2.St} {H : Hp} {G : DHp} {s : Shared} {P : D → DHp → Prop} {d : D} {z : V} {w : Value} (I : Inv X pins σ H s) (rz : RelV z w) (hr : HR X.ml H G) (q : VR X.ml H G d z) (p : P d G) :
    ∃ z d H' G', Inv X pins σ H' s ∧ RelV z w ∧ P d G' ∧ Ext H G H' G' ∧ HR X.ml H' G' ∧ VR X.ml H' G' d z := ⟨z, d, H, G, I, rz, p, .refl _ _, hr, q⟩
def i2 (C : Int → Int → Prop) (g : Int → Int → D) : DR2 := fun x y G Q => match x, y with
  | .int i, .int j => C i j ∧ Q (g i j) G
  | _, _ => False
theorem zto {f : Value → Value → Sem Value} {C : Int → Int → Prop} {g : Int → Int → D} {gv : Int → Int → V} (hg : ∀ i j H G, VR X.ml H G (g i j) (gv i j)) (h : OpR X f (rI C gv)) : OpD X f (i2 C g) := zkv fun pins s σ H G x y v u dx dy P I rx ry hr q1 q2 t => by
  unfold i2 at t
  split at t
  · rename_i i j
    rw [VR] at q1 q2
    subst q1 q2
    refine thn (h pins s σ H _ _ v u (fun z H' => z = gv i j ∧ H' = H) I rx ry ⟨i, j, rfl, rfl, t.1, rfl, rfl⟩) fun w s' ⟨z, H', I', rz, e1, e2⟩ => ?_
    subst e1 e2
    exact zbo I' rz hr (hg i j H' G) t.2
  · exact t.elim
theorem z4f {f : Value → Value → Sem Value} {g : Int → Int → V} (h : OpR X f (rI0 g)) : OpR X f (rI (fun _ _ => True) g) := fun pins s σ H x y v u Q I rx ry ⟨i, j, e1, e2, _, q⟩ => h pins s σ H x y v u Q I rx ry ⟨i, j, e1, e2, q⟩
theorem zjb : OpD X (binaryOp .Sub) (i2 (fun _ _ => True) fun i j => .int (i - j)) := zto (fun _ _ _ _ => by rw [VR]) (z4f op_sub)
theorem zoe : OpD X (binaryOp .Mult) (i2 CMul fun i j => .int (i * j)) := zto (fun _ _ _ _ => by rw [VR]) op_mul
/-- a divisor below 2 ^ 30 -/
theorem zvz : OpD X (binaryOp .FloorDiv) (i2 CDiv fun i j => .int (i / j)) := zto (fun _ _ _ _ => by rw [VR]) op_fdiv
theorem zp8 : OpD X (binaryOp .Mod) (i2 (fun _ j => 0 < j) fun i j => .int (i % j)) := zto (fun _ _ _ _ => by rw [VR]) op_mod
theorem z3v : OpD X (binaryOp .Pow) (i2 CPow fun i j => .int (i ^ j.toNat)) := zto (fun _ _ _ _ => by rw [VR]) op_pow
/-- + of ints, texts, tuples, lists (a new list that is changed no more) -/
def dAdd : DR2 := fun x y G Q => match der x G, der y G with
  | .int i, .int j => Q (.int (i + j)) G
  | .str a, .str b => a.length + b.length ≤ sizeLine ∧ Q (.str (a ++ b)) G
  | .nd .tup xs, .nd .tup ys => xs.length + ys.length ≤ sizeLine ∧ Q (.nd .tup (xs ++ ys)) G
  | .nd .lst xs, .nd .lst ys => xs.length + ys.length ≤ sizeLine ∧ Q (.nd .lst (xs ++ ys)) G
  | _, _ => False
theorem zki {G : DHp} {x d : D} (e : der x G = d) (hl : ∀ ds, d ≠ .nd .lst ds) : x = d := by
  cases x with
  | ref a =>
    rw [zsr] at e
    cases g : G a with
    | none => rw [g] at e; exact e
    | some o =>
      cases o with
      | lst ds => rw [g] at e; exact absurd e.symm (hl ds)
      | _ => rw [g] at e; exact e
  | _ => exact e
theorem zew : OpD X (binaryOp .Add) dAdd := zkv fun pins s σ H G x y v u dx dy P I rx ry hr q1 q2 t => by
  unfold dAdd at t
  split at t
  · rename_i i j e1 e2
    have e1 := zki e1 (fun _ h => nomatch h)
    have e2 := zki e2 (fun _ h => nomatch h)
    subst e1 e2
    rw [VR] at q1 q2
    subst q1 q2
    obtain ⟨t1, rfl⟩ := rx
    obtain ⟨t2, rfl⟩ := ry
    exact add_int (zbo (z := .int (i + j)) (I.tok _) ⟨_, rfl⟩ hr (by rw [VR]) t)
  · rename_i i j e1 e2
    have e1 := zki e1 (fun _ h => nomatch h)
    have e2 := zki e2 (fun _ h => nomatch h)
    subst e1 e2
    rw [VR] at q1 q2
    subst q1 q2
    exact thn (op_add_str pins s σ H _ _ v u (fun z H' => z = .str (i ++ j) ∧ H' = H) I rx ry ⟨i, j, rfl, rfl, t.1, rfl, rfl⟩) fun w s' ⟨z, H', I', rz, e1, e2⟩ => by
      subst e1 e2
      exact zbo I' rz hr (by rw [VR]) t.2
  · rename_i xs ys e1 e2
    have e1 := zki e1 (fun _ h => nomatch h)
    have e2 := zki e2 (fun _ h => nomatch h)
    subst e1 e2
    rw [VR] at q1 q2
    obtain ⟨a, vs, rfl, h1, r1⟩ := q1
    obtain ⟨b, ws, rfl, h2, r2⟩ := q2
    refine thn (op_catA pins s σ H _ _ v u (fun z H' => Ext H G H' G ∧ HR X.ml H' G ∧ VR X.ml H' G (.nd .tup (xs ++ ys)) z) I rx ry ⟨a, b, vs, ws, rfl, rfl, h1, h2, by rw [r1.length, r2.length]; exact t.1, fun e => ?_, fun _ e => ?_, fun _ _ p hp => ?_⟩) fun w s' ⟨z, H', I', rz, x', r', q'⟩ => ⟨z, _, H', G, I', rz, t.2, x', r', q'⟩
    · have : xs = [] := by have := r1.length; rw [e] at this; exact List.length_eq_zero_iff.mp this.symm
      subst this
      refine ⟨.refl _ _, hr, ?_⟩
      rw [VR]
      exact ⟨b, ws, rfl, h2, r2⟩
    · have : ys = [] := by have := r2.length; rw [e] at this; exact List.length_eq_zero_iff.mp this.symm
      subst this
      refine ⟨.refl _ _, hr, ?_⟩
      rw [VR, List.append_nil]
      exact ⟨a, vs, rfl, h1, r1⟩
    · have x2 : Ext H G (upd H p (.tup (vs ++ ws))) G := .laid hp
      refine ⟨x2, hr.laid hp, ?_⟩
      rw [VR]
      exact ⟨p, _, rfl, .inl (.inl upd_same), (r1.append r2).ext hr x2⟩
  · rename_i xs ys e1 e2
    obtain ⟨a, vs, rfl, h1, r1⟩ := zkm hr q1 e1
    obtain ⟨b, ws, rfl, h2, r2⟩ := zkm hr q2 e2
    refine thn (op_cat pins s σ H _ _ v u (fun z H' => Ext H G H' G ∧ HR X.ml H' G ∧ VR X.ml H' G (.nd .lst (xs ++ ys)) z) I rx ry ⟨a, b, vs, ws, rfl, rfl, h1, h2, by rw [r1.length, r2.length]; exact t.1, fun p hp => ?_⟩) fun w s' ⟨z, H', I', rz, x', r', q'⟩ => ⟨z, _, H', G, I', rz, t.2, x', r', q'⟩
    have x2 : Ext H G (upd H p (.lst (vs ++ ws))) G := .laid hp
    refine ⟨x2, hr.laid hp, ?_⟩
    rw [VR]
    exact ⟨p, _, rfl, ⟨hr.free hp, upd_same⟩, (r1.append r2).ext hr x2⟩
  · exact t.elim
/-- equality of plain data -/
def dEq : DR2 := fun x y G Q => (zb8 (der x G) = true ∧ zb8 (der y G) = true ∧ SeqAt.shaped (py (der x G)) = true ∧ SeqAt.shaped (py (der y G)) = true) ∧ Q (.bl (PyData.eqv (py (der x G)) (py (der y G)))) G
def dNe : DR2 := fun x y G Q => (zb8 (der x G) = true ∧ zb8 (der y G) = true ∧ SeqAt.shaped (py (der x G)) = true ∧ SeqAt.shaped (py (der y G)) = true) ∧ Q (.bl (!PyData.eqv (py (der x G)) (py (der y G)))) G
theorem zk0 (hu : X.A.units + 64 < cLine) : OpD X (compareOp .Eq) dEq := zkv fun pins s σ H G x y v u dx dy P I rx ry hr q1 q2 ⟨⟨p1, p2, s1, s2⟩, t⟩ =>
  thn (op_eqD hu pins s σ H _ _ v u (fun z H' => z = .bl (PyData.eqv (py (der dx G)) (py (der dy G))) ∧ H' = H) I rx ry ⟨_, _, zn7 hr q1 p1, zn7 hr q2 p2, s1, s2, rfl, rfl⟩) fun w s' ⟨z, H', I', rz, e1, e2⟩ => by
    subst e1 e2
    exact zbo I' rz hr (by rw [VR]) t
theorem znj (hu : X.A.units + 64 < cLine) : OpD X (compareOp .NotEq) dNe := zkv fun pins s σ H G x y v u dx dy P I rx ry hr q1 q2 ⟨⟨p1, p2, s1, s2⟩, t⟩ =>
  thn (op_neD hu pins s σ H _ _ v u (fun z H' => z = .bl (!PyData.eqv (py (der dx G)) (py (der dy G))) ∧ H' = H) I rx ry ⟨_, _, zn7 hr q1 p1, zn7 hr q2 p2, s1, s2, rfl, rfl⟩) fun w s' ⟨z, H', I', rz, e1, e2⟩ => by
    subst e1 e2
    exact zbo I' rz hr (by rw [VR]) t
/-- an order of plain data -/
def dOrd (g : PyData → PyData → Bool) : DR2 := fun x y G Q => (zb8 x = true ∧ zb8 y = true ∧ PySem.W.alike (py x) (py y) = true ∧ py x ≠ .none ∧ (py x).depth ≤ 64) ∧ Q (.bl (g (py x) (py y))) G
abbrev dLt : DR2 := dOrd PySem.W.dataLt
abbrev dLe : DR2 := dOrd fun a b => !PySem.W.dataLt b a
abbrev dGt : DR2 := dOrd fun a b => PySem.W.dataLt b a
abbrev dGe : DR2 := dOrd fun a b => !PySem.W.dataLt a b
theorem zv5 {f : Value → Value → Sem Value} {g : PyData → PyData → Bool} (hu : X.A.units + 64 < cLine)
    (h : ∀ {s : Shared} {a b : Value} {da db : PyData} {as bs : List Addr} {Q : Value → Shared → Prop}, Reads s.heap a da as → Reads s.heap b db bs → PySem.W.alike da db = true → da ≠ .none → X.A.units + min da.depth db.depth < cLine → Q (.bool (g da db)) s → wpAny (model X.prog X.w) X.A (f a b) Q X.xe s) : OpD X f (dOrd g) :=
  zkv fun pins s σ H G x y v u dx dy P I rx ry hr q1 q2 ⟨⟨p1, p2, al, nn, dp⟩, t⟩ => by
    obtain ⟨as, r1⟩ := Dp.reads I _ _ v (q1.dp p1) rx
    obtain ⟨bs, r2⟩ := Dp.reads I _ _ u (q2.dp p2) ry
    exact h r1 r2 al nn (by have := Nat.min_le_left (py dx).depth (py dy).depth; omega) (zbo (z := .bl _) I rfl hr (by rw [VR]) t)
theorem z3f (hu : X.A.units + 64 < cLine) : OpD X (compareOp .Lt) dLt := zv5 hu fun r1 r2 h n u q => PySem.W.lt_data r1 r2 h n u q
theorem z3r (hu : X.A.units + 64 < cLine) : OpD X (compareOp .LtE) dLe := zv5 hu fun r1 r2 h n u q => PySem.W.le_data r1 r2 h n u q
theorem z0i (hu : X.A.units + 64 < cLine) : OpD X (compareOp .Gt) dGt := zv5 hu fun r1 r2 h n u q => PySem.W.gt_data r1 r2 h n u q
theorem z4t (hu : X.A.units + 64 < cLine) : OpD X (compareOp .GtE) dGe := zv5 hu fun r1 r2 h n u q => PySem.W.ge_data r1 r2 h n u q
/-- is None -/
def z1k : D → Bool
  | .non => true
  | _ => false
def dIsN (b : Bool) : DR2 := fun x y G Q => match y with
  | .non => Q (.bl (b != z1k x)) G
  | _ => False
theorem z15 {K : Ml} {H : Hp} {G : DHp} {d : D} {v : V} (h : VR K H G d v) : z1k d = decide (v = .non) := by
  cases d with
  | nd k ds => rw [VR] at h; obtain ⟨a, vs, rfl, _⟩ := h; rfl
  | _ => rw [VR] at h; subst h; rfl
theorem zzl : OpD X (compareOp .IsNot) (dIsN true) := zkv fun pins s σ H G x y v u dx dy P I rx ry hr q1 q2 t => by
  cases dy with
  | non =>
    rw [VR] at q2; subst q2
    refine thn (op_notN pins s σ H _ _ v u (fun z H' => z = .bl (!decide (x = .non)) ∧ H' = H) I rx ry ⟨rfl, rfl, rfl⟩) fun w s' ⟨z, H', I', rz, e1, e2⟩ => ?_
    subst e1 e2
    refine zbo I' rz hr (d := .bl (!decide (x = .non))) (by rw [VR]) ?_
    rw [← z15 q1]
    have t : P (.bl (true != z1k dx)) G := t
    simpa using t
  | _ => exact t.elim
end
end DL
namespace DL
open PySem PySem.Spec PyProof.Rows L2
def dicN (y : D) (G : DHp) : Option (List (NestedKey × D)) := match y with
  | .nd (.dN ks) vs => some (ks.zip vs)
  | .ref a => (match G a with
    | some (.dN kvs) => some kvs
    | _ => none)
  | _ => none
def dicK (y : D) (G : DHp) : Option (List (Key × D)) := match y with
  | .nd (.dK ks) vs => some (ks.zip vs)
  | .ref a => (match G a with
    | some (.dK kvs) => some kvs
    | _ => none)
  | _ => none
def D.kK : D → Option Key
  | .int i => some (.inl i)
  | .str x => some (.inr x)
  | _ => none
/-- what stands at a key -/
def dval {κ : Type} [DecidableEq κ] (kvs : List (κ × D)) (k : κ) : Option D := (kvs.find? fun p => decide (p.1 = k)).map (·.2)
/-- d[k] = v -/
def dput {κ : Type} [DecidableEq κ] (kvs : List (κ × D)) (k : κ) (v : D) : List (κ × D) :=
  if kvs.any fun p => decide (p.1 = k) then kvs.map fun p => if p.1 = k then (p.1, v) else p else kvs ++ [(k, v)]
theorem zrv {α β : Type} : ∀ {l : List α} {m : List β}, l.length = m.length → (l.zip m).map (·.1) = l
  | [], _, _ => rfl
  | _ :: _, [], h => by simp at h
  | a :: l, b :: m, h => by simp [zrv (l := l) (m := m) (by simpa using h)]
theorem zrl {α β : Type} : ∀ {l : List α} {m : List β}, l.length = m.length → (l.zip m).map (·.2) = m
  | [], [], _ => rfl
  | [], _ :: _, h => by simp at h
  | _ :: _, [], h => by simp at h
  | a :: l, b :: m, h => by simp [zrl (l := l) (m := m) (by simpa using h)]
section
variable {K : Ml} {H : Hp} {G : DHp}
theorem zrk (hr : HR K H G) {d : D} {v : V} {kvs : List (NestedKey × D)} (h : VR K H G d v) (e : dicN d G = some kvs) : ∃ a ws, v = .ref a ∧ DnAt K H a (kvs.map (·.1)) ws ∧ VRs K H G (kvs.map (·.2)) ws := by
  cases d with
  | ref a =>
    rw [VR] at h
    have e : (match G a with | some (.dN kvs) => some kvs | _ => none) = some kvs := e
    cases g : G a with
    | none => rw [g] at e; cases e
    | some o =>
      cases o with
      | dN kvs' =>
        rw [g] at e
        cases e
        obtain ⟨ws, q, r⟩ := hr a _ g
        exact ⟨a, ws, h, q, r⟩
      | _ => rw [g] at e; cases e
  | nd k ds =>
    cases k with
    | dN ks =>
      cases e
      rw [VR] at h
      obtain ⟨a, vs, ev, ⟨_, q⟩, r⟩ := h
      have hl : ks.length = ds.length := by
        obtain ⟨xs, _, _, _, _, _, h4, _, _, _, h8⟩ := id q
        rw [← r.length, h8.length, ← h4, List.length_map, List.length_map]
      exact ⟨a, vs, ev, by rw [zrv hl]; exact q, by rw [zrl hl]; exact r⟩
    | _ => cases e
  | _ => cases e
theorem zrw (hr : HR K H G) {d : D} {v : V} {kvs : List (Key × D)} (h : VR K H G d v) (e : dicK d G = some kvs) : ∃ a ws, v = .ref a ∧ Rd H a (.dK ws) ∧ ws.map (·.1) = kvs.map (·.1) ∧ VRs K H G (kvs.map (·.2)) (ws.map (·.2)) := by
  cases d with
  | ref a =>
    rw [VR] at h
    have e : (match G a with | some (.dK kvs) => some kvs | _ => none) = some kvs := e
    cases g : G a with
    | none => rw [g] at e; cases e
    | some o =>
      cases o with
      | dK kvs' =>
        rw [g] at e
        cases e
        obtain ⟨ws, q, z, r⟩ := hr a _ g
        exact ⟨a, ws, h, .inl q, z, r⟩
      | _ => rw [g] at e; cases e
  | nd k ds =>
    cases k with
    | dK ks =>
      cases e
      rw [VR] at h
      obtain ⟨a, vs, ev, ⟨l, o, q⟩, r⟩ := h
      have hl : ks.length = ds.length := by rw [l, r.length]
      exact ⟨a, ks.zip vs, ev, .inr ⟨o, q⟩, by rw [zrv l, zrv hl], by rw [zrl l, zrl hl]; exact r⟩
    | _ => cases e
  | _ => cases e
/-- the values found by keys are the same -/
theorem zr4 {κ : Type} [DecidableEq κ] (k : κ) : ∀ {ws : List (κ × V)} {kvs : List (κ × D)}, ws.map (·.1) = kvs.map (·.1) → VRs K H G (kvs.map (·.2)) (ws.map (·.2)) → (dval kvs k = none ∧ valV ws k = none) ∨ ∃ d v, dval kvs k = some d ∧ valV ws k = some v ∧ VR K H G d v
  | [], [], _, _ => .inl ⟨rfl, rfl⟩
  | [], _ :: _, h, _ => by simp at h
  | _ :: _, [], h, _ => by simp at h
  | (k1, v) :: ws, (k2, d) :: kvs, h, r => by
    simp only [List.map_cons, List.cons.injEq] at h
    obtain ⟨h1, h2⟩ := h
    subst h1
    obtain ⟨v', r', e, q, t⟩ := VRs.uncons r
    simp only [List.map_cons, List.cons.injEq] at e
    obtain ⟨rfl, rfl⟩ := e
    by_cases hk : k1 = k
    · exact .inr ⟨d, v, by simp [dval, hk], by simp [valV, hk], q⟩
    · have := zr4 k h2 t
      simpa [dval, valV, hk] using this
mutual
theorem zs8 : ∀ {d : D} {v : V} {k : NestedKey}, VR K H G d v → D.key d = some k → zgn K H k v
  | .non, _, _, h, e => by rw [D.key] at e; cases e; rw [VR] at h; rw [zgn]; exact h
  | .bl _, _, _, h, e => by simp [D.key] at e
  | .int _, _, _, h, e => by rw [D.key] at e; cases e; rw [VR] at h; rw [zgn]; exact h
  | .str _, _, _, h, e => by rw [D.key] at e; cases e; rw [VR] at h; rw [zgn]; exact h
  | .ty _, _, _, h, e => by simp [D.key] at e
  | .ref _, _, _, h, e => by simp [D.key] at e
  | .nd .tup ds, _, _, h, e => by
    rw [D.key] at e
    cases q : D.keys ds with
    | none => rw [q] at e; cases e
    | some ks =>
      rw [q] at e
      cases e
      rw [VR] at h
      obtain ⟨a, vs, rfl, hh, r⟩ := h
      rw [zgn]
      exact ⟨a, vs, rfl, hh, keys_at r q⟩
  | .nd .lst _, _, _, h, e => by simp [D.key] at e
  | .nd .scr _, _, _, h, e => by simp [D.key] at e
  | .nd (.ins _ _) _, _, _, h, e => by simp [D.key] at e
  | .nd (.dK _) _, _, _, h, e => by simp [D.key] at e
  | .nd (.dN _) _, _, _, h, e => by simp [D.key] at e
theorem keys_at : ∀ {ds : List D} {vs : List V} {ks : List NestedKey}, VRs K H G ds vs → D.keys ds = some ks → KeysAt K H ks vs
  | [], _, _, h, e => by rw [D.keys] at e; cases e; rw [KeysAt]; exact h.nil_of
  | d :: ds, _, _, h, e => by
    obtain ⟨v, r, rfl, q, t⟩ := h.uncons
    rw [D.keys] at e
    cases e1 : D.key d with
    | none => rw [e1] at e; cases e
    | some k =>
      cases e2 : D.keys ds with
      | none => rw [e1, e2] at e; cases e
      | some ks' =>
        rw [e1, e2] at e
        cases e
        rw [KeysAt]
        exact ⟨v, r, rfl, zs8 q e1, keys_at t e2⟩
end
end
section
variable {X : Cx}
mutual
theorem zi8 {pins : List (Addr × Obj)} {σ : L2.St} {H : Hp} {s : Shared} (I : Inv X pins σ H s) : ∀ {k : NestedKey} {v : V} {u : Value}, zgn X.ml H k v → RelV v u → NestedIs s.heap k u
  | .none, _, _, h, r => by rw [zgn] at h; subst h; cases (show _ = Value.none from r); exact .none
  | .num i, _, _, h, r => by rw [zgn] at h; subst h; obtain ⟨t, rfl⟩ := r; exact .int i t
  | .text x, _, _, h, r => by rw [zgn] at h; subst h; obtain ⟨t, rfl⟩ := r; exact .text x t
  | .tup ks, _, _, h, r => by
    rw [zgn] at h
    obtain ⟨a, vs, rfl, q, t⟩ := h
    cases (show _ = Value.ref a from r)
    obtain ⟨its, rv, ⟨o, ho, hc, n, hd⟩, _⟩ := I.tuple q
    exact .tup ho hc hd (nested_all I t rv)
theorem nested_all {pins : List (Addr × Obj)} {σ : L2.St} {H : Hp} {s : Shared} (I : Inv X pins σ H s) : ∀ {ks : List NestedKey} {vs : List V} {us : List Value}, KeysAt X.ml H ks vs → Vals vs us → NestedAll s.heap ks us
  | [], _, _, h, r => by rw [KeysAt] at h; subst h; cases r; exact .nil
  | k :: ks, _, _, h, r => by
    rw [KeysAt] at h
    obtain ⟨v, w, rfl, q, t⟩ := h
    cases r with
    | cons r1 r2 => exact .cons (zi8 I q r1) (nested_all I t r2)
end
/-- a dict with nested keys at the library's level -/
theorem DnAt.of {pins : List (Addr × Obj)} {σ : L2.St} {H : Hp} {s : Shared} {a : Addr} {ks : List NestedKey} {vs : List V} (I : Inv X pins σ H s) (h : DnAt X.ml H a ks vs) :
    ∃ xs es ep, H a = some (rawO a es ep) ∧ s.heap.DictRaw a es ep ∧ es.toList = xs.map (entryOfKey (nestedKind X.prog X.w)) ∧ s.heap.DictOfH (nestedKind X.prog X.w) a xs ∧ (a == sysModules) = false ∧ xs.map (·.1) = ks ∧ ks.length ≤ sizeLine ∧ (∀ x ∈ xs, zgn X.ml H x.1 (.ref x.2.1) ∧ x.1.depth ≤ 8) ∧ Vals vs (xs.map (·.2.2)) := by
  obtain ⟨xs, es, ep, h1, h2, h3, h4, h5, h6, h7, h8⟩ := h
  obtain ⟨φ, _, _⟩ := (show ObjOk X.prog X.w H s.heap a (rawO a es ep) from I.hok a _ h1)
  refine ⟨xs, es, ep, h1, φ, h3, ?_, h2, h4, h6, h7, h8⟩
  obtain ⟨o, ho, hc, hd⟩ := φ
  exact ⟨o, es, ep, ho, hc, hd, h3, fun x hx => ⟨zi8 I (h7 x hx).1 rfl, (h7 x hx).2⟩, by rw [h4]; exact h5⟩
theorem zr1 {A : Around} (hu : A.units + 64 < cLine) : (nestedKind X.prog X.w).room A.in1 := by
  show A.units + 1 + 8 < cLine
  omega
/-- the dict at a has been written -/
theorem zzj {pins : List (Addr × Obj)} {σ : L2.St} {H : Hp} {s : Shared} {a : Addr} {es es' : Array DictEntry} {ep ep' t' : Nat} {h' : Heap} (I : Inv X pins σ H s) (hH : H a = some (rawO a es ep)) (hs : Heap.SameBut a s.heap h') (hr : h'.DictRaw a es' ep') :
    Inv X pins σ (upd H a (rawO a es' ep')) { s with heap := h', toks := t' } := by
  obtain ⟨o, ho, hc, hd⟩ := id hr
  exact I.write (by rw [hH]; trivial) (.inl rfl) (fun b u hb e => (hs.2 b hb).trans e) ⟨o, ho⟩ ⟨hr, ⟨o, ho⟩, fun h1 h2 φ k => φ.at k⟩
theorem zm5 {K : Type} {xs : List (NestedKey × Addr × Value)} {k : NestedKey} {vs : List V} (r : Vals vs (xs.map (·.2.2))) : ∀ (kvs : List (NestedKey × D)) (H : Hp) (G : DHp) (M : Ml), xs.map (·.1) = kvs.map (·.1) → VRs M H G (kvs.map (·.2)) vs →
    (dval kvs k = none ∧ atKey xs k = none) ∨ ∃ d v p, dval kvs k = some d ∧ atKey xs k = some p ∧ RelV v p.2 ∧ VR M H G d v := by
  induction xs generalizing vs with
  | nil =>
    intro kvs H G M h1 h2
    cases kvs with
    | nil => exact .inl ⟨rfl, rfl⟩
    | cons _ _ => simp at h1
  | cons x xs ih =>
    intro kvs H G M h1 h2
    cases kvs with
    | nil => simp at h1
    | cons y kvs =>
      obtain ⟨k2, d⟩ := y
      simp only [List.map_cons, List.cons.injEq] at h1
      obtain ⟨v, w, rfl, q, t⟩ := VRs.uncons h2
      cases r with
      | cons r1 r2 =>
        by_cases hk : k2 = k
        · exact .inr ⟨d, v, x.2, by simp [dval, hk], by simp [atKey, h1.1, hk], r1, q⟩
        · have hk' : ¬ x.1 = k := by rw [h1.1]; exact hk
          have := ih r2 kvs H G M h1.2 t
          simpa [dval, atKey, hk, hk'] using this
theorem zo7 {κ : Type} [DecidableEq κ] (k : κ) : ∀ kvs : List (κ × D), (kvs.any fun p => decide (p.1 = k)) = (dval kvs k).isSome
  | [] => rfl
  | (a, d) :: kvs => by
    by_cases h : a = k
    · simp [dval, h]
    · have := zo7 k kvs
      simp only [List.any_cons, h, decide_false, Bool.false_or, this]
      simp [dval, h]
def dIn (neg : Bool) : DR2 := fun x y G Q => match der y G with
  | .nd .lst ds => (zb8 x = true ∧ plainDs ds = true ∧ SeqAt.shaped (py x) = true ∧ PyData.canLayAll0 (pys ds) = true) ∧ Q (.bl (neg != (pys ds).any fun z => PyData.eqv z (py x))) G
  | .nd .tup ds => (zb8 x = true ∧ plainDs ds = true ∧ SeqAt.shaped (py x) = true ∧ PyData.canLayAll0 (pys ds) = true) ∧ Q (.bl (neg != (pys ds).any fun z => PyData.eqv z (py x))) G
  | _ => match dicN y G with
    | some kvs => (match x with
      | .nd .tup _ => (match x.key with
        | some k => k.depth ≤ 8 ∧ Q (.bl (neg != (dval kvs k).isSome)) G
        | none => False)
      | _ => False)
    | none => match dicK y G with
      | some kvs => (match x.kK with
        | some k => Q (.bl (neg != (dval kvs k).isSome)) G
        | none => False)
      | none => False
theorem zzt {K : Ml} {H : Hp} {G : DHp} {d : D} {v : V} {k : Key} (h : VR K H G d v) (e : d.kK = some k) : v = kV k := by
  cases d with
  | int i => rw [VR] at h; cases e; exact h
  | str i => rw [VR] at h; cases e; exact h
  | _ => cases e
theorem z3n (hu : X.A.units + 65 < cLine) : OpD X (compareOp .In) (dIn false) := zkv fun pins s σ H G x y v u dx dy P I rx ry hr q1 q2 t => by
  unfold dIn at t
  split at t
  · rename_i ds e
    obtain ⟨⟨p1, p2, s1, s2⟩, t⟩ := t
    have hp := zn7 hr q2 (by rw [e, zb8]; exact p2)
    rw [e, py] at hp
    obtain ⟨as, r1⟩ := Dp.reads I _ _ v (q1.dp p1) rx
    obtain ⟨bs, r2⟩ := Dp.reads I _ _ u hp ry
    exact SeqAt.in_list_reads r2 r1 s2 (SeqAt.canLay_of_shaped s1) (room_in_shaped s1 hu) (zbo (z := .bl _) I rfl hr (d := .bl ((pys ds).any fun z => PyData.eqv z (py dx))) (by rw [VR]) (by simpa using t))
  · rename_i ds e
    obtain ⟨⟨p1, p2, s1, s2⟩, t⟩ := t
    have hp := zn7 hr q2 (by rw [e, zb8]; exact p2)
    rw [e, py] at hp
    obtain ⟨as, r1⟩ := Dp.reads I _ _ v (q1.dp p1) rx
    obtain ⟨bs, r2⟩ := Dp.reads I _ _ u hp ry
    exact SeqAt.in_tuple_reads r2 r1 s2 (SeqAt.canLay_of_shaped s1) (room_in_shaped s1 hu) (zbo (z := .bl _) I rfl hr (d := .bl ((pys ds).any fun z => PyData.eqv z (py dx))) (by rw [VR]) (by simpa using t))
  · split at t
    · rename_i kvs e
      cases dx with
      | nd kd ds =>
        cases kd with
        | tup =>
          have t : (match D.key (.nd .tup ds) with | some k => k.depth ≤ 8 ∧ P (.bl (false != (dval kvs k).isSome)) G | none => False) := t
          cases ek : D.key (.nd .tup ds) with
          | none => rw [ek] at t; exact t.elim
          | some k =>
            rw [ek] at t
            obtain ⟨hd8, t⟩ := (show k.depth ≤ 8 ∧ P (.bl (false != (dval kvs k).isSome)) G from t)
            have ka := zs8 q1 ek
            obtain ⟨a, ws, rfl, dn, vr⟩ := zrk hr q2 e
            obtain ⟨xs, es, ep, h1, h2, h3, h4, h5, h6, h7, h8, h9⟩ := DnAt.of I dn
            rw [VR] at q1
            obtain ⟨b, vs, rfl, hb, rb⟩ := q1
            cases (show v = Value.ref b from rx)
            cases (show u = Value.ref a from ry)
            refine wpAny_in_heap (zr1 (by omega)) ⟨zi8 I ka rfl, hd8⟩ h5 h4 (zbo (z := .bl _) (I.tok _) rfl hr (d := .bl (atKey xs k).isSome) (by rw [VR]) ?_)
            rcases zm5 (K := Unit) (k := k) h9 kvs H G X.ml h6 vr with ⟨e1, e2⟩ | ⟨d, w, p, e1, e2, _, _⟩
            · rw [e2]; rw [e1] at t; simpa using t
            · rw [e2]; rw [e1] at t; simpa using t
        | _ => exact t.elim
      | _ => exact t.elim
    · split at t
      · rename_i kvs e
        cases ek : dx.kK with
        | none => rw [ek] at t; exact t.elim
        | some k =>
          rw [ek] at t
          have t : P (.bl (false != (dval kvs k).isSome)) G := t
          obtain ⟨a, ws, rfl, rd, e1, vr⟩ := zrw hr q2 e
          cases (show u = Value.ref a from ry)
          have ex := zzt q1 ek
          subst ex
          have g : DGet H a (kV k) (valV ws k) := .inl ⟨ws, k, rd, rfl, rfl⟩
          refine d_in (by omega) I g rx fun s' I' => zbo (z := .bl _) I' rfl hr (d := .bl (valV ws k).isSome) (by rw [VR]) ?_
          rcases zr4 k e1 vr with ⟨e2, e3⟩ | ⟨d, w, e2, e3, _⟩
          · rw [e3]; rw [e2] at t; simpa using t
          · rw [e3]; rw [e2] at t; simpa using t
      · exact t.elim
theorem z0d (hu : X.A.units + 65 < cLine) : OpD X (compareOp .NotIn) (dIn true) := zkv fun pins s σ H G x y v u dx dy P I rx ry hr q1 q2 t => by
  unfold dIn at t
  split at t
  · rename_i ds e
    obtain ⟨⟨p1, p2, s1, s2⟩, t⟩ := t
    have hp := zn7 hr q2 (by rw [e, zb8]; exact p2)
    rw [e, py] at hp
    obtain ⟨as, r1⟩ := Dp.reads I _ _ v (q1.dp p1) rx
    obtain ⟨bs, r2⟩ := Dp.reads I _ _ u hp ry
    exact SeqAt.notIn_list_reads r2 r1 s2 (SeqAt.canLay_of_shaped s1) (room_in_shaped s1 hu) (zbo (z := .bl _) I rfl hr (d := .bl (!(pys ds).any fun z => PyData.eqv z (py dx))) (by rw [VR]) (by simpa using t))
  · rename_i ds e
    obtain ⟨⟨p1, p2, s1, s2⟩, t⟩ := t
    have hp := zn7 hr q2 (by rw [e, zb8]; exact p2)
    rw [e, py] at hp
    obtain ⟨as, r1⟩ := Dp.reads I _ _ v (q1.dp p1) rx
    obtain ⟨bs, r2⟩ := Dp.reads I _ _ u hp ry
    exact SeqAt.notIn_tuple_reads r2 r1 s2 (SeqAt.canLay_of_shaped s1) (room_in_shaped s1 hu) (zbo (z := .bl _) I rfl hr (d := .bl (!(pys ds).any fun z => PyData.eqv z (py dx))) (by rw [VR]) (by simpa using t))
  · split at t
    · rename_i kvs e
      cases dx with
      | nd kd ds =>
        cases kd with
        | tup =>
          have t : (match D.key (.nd .tup ds) with | some k => k.depth ≤ 8 ∧ P (.bl (true != (dval kvs k).isSome)) G | none => False) := t
          cases ek : D.key (.nd .tup ds) with
          | none => rw [ek] at t; exact t.elim
          | some k =>
            rw [ek] at t
            obtain ⟨hd8, t⟩ := (show k.depth ≤ 8 ∧ P (.bl (true != (dval kvs k).isSome)) G from t)
            have ka := zs8 q1 ek
            obtain ⟨a, ws, rfl, dn, vr⟩ := zrk hr q2 e
            obtain ⟨xs, es, ep, h1, h2, h3, h4, h5, h6, h7, h8, h9⟩ := DnAt.of I dn
            rw [VR] at q1
            obtain ⟨b, vs, rfl, hb, rb⟩ := q1
            cases (show v = Value.ref b from rx)
            cases (show u = Value.ref a from ry)
            show wpAny _ _ (do return Value.bool (!(← contains (.ref a) (.ref b)))) _ X.xe s
            refine wpAny_bind (wpAny_contains_heap (zr1 (X := X) (A := X.A) (by omega)) ⟨zi8 I ka rfl, hd8⟩ h5 h4 (wpAny_pure (zbo (z := .bl _) (I.tok _) rfl hr (d := .bl (!(atKey xs k).isSome)) (by rw [VR]) ?_)))
            rcases zm5 (K := Unit) (k := k) h9 kvs H G X.ml h6 vr with ⟨e1, e2⟩ | ⟨d, w, p, e1, e2, _, _⟩
            · rw [e2]; rw [e1] at t; simpa using t
            · rw [e2]; rw [e1] at t; simpa using t
        | _ => exact t.elim
      | _ => exact t.elim
    · split at t
      · rename_i kvs e
        cases ek : dx.kK with
        | none => rw [ek] at t; exact t.elim
        | some k =>
          rw [ek] at t
          have t : P (.bl (true != (dval kvs k).isSome)) G := t
          obtain ⟨a, ws, rfl, rd, e1, vr⟩ := zrw hr q2 e
          cases (show u = Value.ref a from ry)
          have ex := zzt q1 ek
          subst ex
          have g : DGet H a (kV k) (valV ws k) := .inl ⟨ws, k, rd, rfl, rfl⟩
          refine d_notIn (by omega) I g rx fun s' I' => zbo (z := .bl _) I' rfl hr (d := .bl (!(valV ws k).isSome)) (by rw [VR]) ?_
          rcases zr4 k e1 vr with ⟨e2, e3⟩ | ⟨d, w, e2, e3, _⟩
          · rw [e3]; rw [e2] at t; simpa using t
          · rw [e3]; rw [e2] at t; simpa using t
      · exact t.elim
end
end DL
namespace DL
open PySem PySem.Spec PyProof.Rows L2
section
variable {K : Ml} {H : Hp} {G : DHp}
theorem zwq {κ : Type} [DecidableEq κ] (kvs : List (κ × D)) (k : κ) (v : D) : (dput kvs k v).map (·.1) = if (dval kvs k).isSome then kvs.map (·.1) else kvs.map (·.1) ++ [k] := by
  unfold dput
  rw [zo7]
  split
  · rw [List.map_map]
    refine List.map_congr_left fun x _ => ?_
    simp only [Function.comp]
    split <;> rfl
  · simp
theorem z19 {κ : Type} [DecidableEq κ] (kvs : List (κ × V)) (k : κ) (v : V) : (putK kvs k v).map (·.1) = if (valV kvs k).isSome then kvs.map (·.1) else kvs.map (·.1) ++ [k] := by
  unfold putK
  rw [valV_any]
  split
  · rw [List.map_map]
    refine List.map_congr_left fun x _ => ?_
    simp only [Function.comp]
    split <;> rfl
  · simp
theorem zp9 {κ : Type} [DecidableEq κ] {k : κ} : ∀ {ws : List (κ × V)} {kvs : List (κ × D)}, ws.map (·.1) = kvs.map (·.1) → (valV ws k).isSome = (dval kvs k).isSome
  | [], [], _ => rfl
  | [], _ :: _, h => by simp at h
  | _ :: _, [], h => by simp at h
  | (k1, v) :: ws, (k2, d) :: kvs, h => by
    simp only [List.map_cons, List.cons.injEq] at h
    obtain ⟨h1, h2⟩ := h
    subst h1
    by_cases hk : k1 = k
    · simp [dval, valV, hk]
    · have := zp9 (k := k) h2
      simpa [dval, valV, hk] using this
theorem zvn {κ : Type} [DecidableEq κ] (k : κ) {d : D} {v : V} (hv : VR K H G d v) : ∀ {ws : List (κ × V)} {kvs : List (κ × D)}, ws.map (·.1) = kvs.map (·.1) → VRs K H G (kvs.map (·.2)) (ws.map (·.2)) →
    VRs K H G ((kvs.map fun p => if p.1 = k then (p.1, d) else p).map (·.2)) ((ws.map fun p => if p.1 = k then (p.1, v) else p).map (·.2))
  | [], [], _, _ => .nil
  | [], _ :: _, h, _ => by simp at h
  | _ :: _, [], h, _ => by simp at h
  | (k1, w) :: ws, (k2, e) :: kvs, h, r => by
    simp only [List.map_cons, List.cons.injEq] at h
    obtain ⟨h1, h2⟩ := h
    subst h1
    obtain ⟨v', r', eq, q, t⟩ := VRs.uncons r
    simp only [List.map_cons, List.cons.injEq] at eq
    obtain ⟨rfl, rfl⟩ := eq
    by_cases hk : k1 = k
    · simp only [List.map_cons, hk, if_true]
      exact .cons hv (zvn k hv h2 t)
    · simp only [List.map_cons, hk, if_false]
      exact .cons q (zvn k hv h2 t)
theorem z29 {κ : Type} [DecidableEq κ] (k : κ) {d : D} {v : V} (hv : VR K H G d v) {ws : List (κ × V)} {kvs : List (κ × D)} (h : ws.map (·.1) = kvs.map (·.1)) (r : VRs K H G (kvs.map (·.2)) (ws.map (·.2))) :
    (putK ws k v).map (·.1) = (dput kvs k d).map (·.1) ∧ VRs K H G ((dput kvs k d).map (·.2)) ((putK ws k v).map (·.2)) := by
  refine ⟨by rw [z19, zwq, h, zp9 h], ?_⟩
  unfold dput putK
  rw [zo7, valV_any, zp9 h]
  split
  · exact zvn k hv h r
  · rw [List.map_append, List.map_append]
    exact r.append (.cons hv .nil)
theorem z0n {κ : Type} [DecidableEq κ] (kvs : List (κ × D)) (k : κ) (v : D) : (dput kvs k v).length ≤ kvs.length + 1 := by
  unfold dput
  split <;> simp
end
section
variable {X : Cx}
/-- the entries that stand behind a store in a dict with nested keys -/
theorem z3l {pins : List (Addr × Obj)} {σ : L2.St} {H : Hp} {G : DHp} {s : Shared} {a b : Addr} {kvs : List (NestedKey × D)} {k : NestedKey} {d : D} {v : V} {u : Value} {h' : Heap} {t' : Nat} {es : Array DictEntry} {ep : Nat} {ws : List V} {xs : List (NestedKey × Addr × Value)}
    (I : Inv X pins σ H s) (hr : HR X.ml H G) (hG : G a = some (.dN kvs)) (hH : H a = some (rawO a es ep)) (hsm : (a == sysModules) = false) (hm : s.heap.DictOfH (nestedKind X.prog X.w) a xs) (hks : xs.map (·.1) = kvs.map (·.1)) (hat : ∀ x ∈ xs, zgn X.ml H x.1 (.ref x.2.1) ∧ x.1.depth ≤ 8)
    (hvs : Vals ws (xs.map (·.2.2))) (vr : VRs X.ml H G (kvs.map (·.2)) ws) (hk : zgn X.ml H k (.ref b)) (h8 : k.depth ≤ 8) (hv : VR X.ml H G d v) (ru : RelV v u) (hlen : kvs.length < sizeLine) (hm' : h'.DictOfH (nestedKind X.prog X.w) a (storedH xs k b u)) (hs : Heap.SameBut a s.heap h') :
    ∃ H', Inv X pins σ H' { s with heap := h', toks := t' } ∧ Ext H G H' (up G a (.dN (dput kvs k d))) ∧ HR X.ml H' (up G a (.dN (dput kvs k d))) := by
  obtain ⟨o', es', ep', ho', hc', hd', he', _, hn'⟩ := hm'
  have raw : h'.DictRaw a es' ep' := ⟨o', ho', hc', hd'⟩
  have x : Ext H G (upd H a (rawO a es' ep')) (up G a (.dN (dput kvs k d))) := .write hG
  refine ⟨_, zzj (t' := t') I hH hs raw, x, hr.write hG ?_⟩
  have some_eq : (atKey xs k).isSome = (dval kvs k).isSome := by
    rcases zm5 (K := Unit) (k := k) hvs kvs H G X.ml hks vr with ⟨e1, e2⟩ | ⟨_, _, _, e1, e2, _, _⟩ <;> rw [e1, e2] <;> rfl
  have keys : (storedH xs k b u).map (·.1) = (dput kvs k d).map (·.1) := by
    rw [zwq, ← some_eq, ← hks]
    unfold storedH
    split
    · rw [List.map_map]
      refine List.map_congr_left fun x _ => ?_
      simp only [Function.comp, putAt]
      split <;> rfl
    · simp
  have vals : ∃ ws', Vals ws' ((storedH xs k b u).map (·.2.2)) ∧ VRs X.ml H G ((dput kvs k d).map (·.2)) ws' := by
    have go : ∀ {xs : List (NestedKey × Addr × Value)} {kvs : List (NestedKey × D)} {ws : List V}, xs.map (·.1) = kvs.map (·.1) → Vals ws (xs.map (·.2.2)) → VRs X.ml H G (kvs.map (·.2)) ws →
        ∃ ws', Vals ws' ((xs.map (putAt k u)).map (·.2.2)) ∧ VRs X.ml H G ((kvs.map fun p => if p.1 = k then (p.1, d) else p).map (·.2)) ws' := by
      intro xs
      induction xs with
      | nil =>
        intro kvs ws h1 h2 h3
        cases kvs with
        | nil => exact ⟨[], .nil, .nil⟩
        | cons _ _ => simp at h1
      | cons y xs ih =>
        intro kvs ws h1 h2 h3
        cases kvs with
        | nil => simp at h1
        | cons z kvs =>
          obtain ⟨k2, e⟩ := z
          simp only [List.map_cons, List.cons.injEq] at h1
          obtain ⟨v0, w0, rfl, q0, t0⟩ := VRs.uncons h3
          cases h2 with
          | cons r1 r2 =>
            obtain ⟨ws', a1, a2⟩ := ih h1.2 r2 t0
            by_cases hkk : k2 = k
            · refine ⟨v :: ws', ?_, ?_⟩
              · rw [List.map_cons, List.map_cons]
                have : (putAt k u y).2.2 = u := by simp [putAt, h1.1, hkk]
                rw [this]
                exact .cons ru a1
              · simp only [List.map_cons, hkk, if_true]
                exact .cons hv a2
            · refine ⟨v0 :: ws', ?_, ?_⟩
              · rw [List.map_cons, List.map_cons]
                have : (putAt k u y).2.2 = y.2.2 := by simp [putAt, h1.1, hkk]
                rw [this]
                exact .cons r1 a1
              · simp only [List.map_cons, hkk, if_false]
                exact .cons q0 a2
    unfold storedH dput
    rw [zo7, some_eq]
    split
    · exact go hks hvs vr
    · refine ⟨ws ++ [v], ?_, ?_⟩
      · rw [List.map_append]
        exact hvs.append (.cons ru .nil)
      · rw [List.map_append]
        exact vr.append (.cons hv .nil)
  obtain ⟨ws', v1, v2⟩ := vals
  refine ⟨ws', ⟨storedH xs k b u, es', ep', upd_same, hsm, he', keys, by rw [← keys]; exact hn', by rw [List.length_map]; have := z0n kvs k d; omega, fun y hy => ?_, v1⟩, v2.ext hr x⟩
  have old : ∀ y ∈ xs, zgn X.ml (upd H a (rawO a es' ep')) y.1 (.ref y.2.1) ∧ y.1.depth ≤ 8 := fun y hy => ⟨(hat y hy).1.ext hr x, (hat y hy).2⟩
  unfold storedH at hy
  split at hy
  · obtain ⟨z, hz, rfl⟩ := List.mem_map.mp hy
    have e1 : (putAt k u z).1 = z.1 := by unfold putAt; split <;> rfl
    have e2 : (putAt k u z).2.1 = z.2.1 := by unfold putAt; split <;> rfl
    rw [e1, e2]
    exact old z hz
  · rcases List.mem_append.mp hy with hy | hy
    · exact old y hy
    · have : y = (k, b, u) := by simpa using hy
      subst this
      exact ⟨hk.ext hr x, h8⟩
abbrev DSet := D → D → D → DHp → (DHp → Prop) → Prop
def zxx (K : Ml) (r : DSet) : TSet := fun o i v H Q => ∃ do_ di dv G P, HR K H G ∧ VR K H G do_ o ∧ VR K H G di i ∧ VR K H G dv v ∧ r do_ di dv G P ∧ ∀ G' H', P G' → Ext H G H' G' → HR K H' G' → Q H'
def dSet : DSet := fun o i v G Q => match o with
  | .ref a => (match G a with
    | some (.lst ds) => (match i with
      | .int k => (match ixN ds.length k with
        | some j => Q (up G a (.lst (ds.set j v)))
        | none => False)
      | _ => False)
    | some (.dN kvs) => (match i with
      | .nd .tup ks => (match D.key (.nd .tup ks) with
        | some k => (k.depth ≤ 8 ∧ kvs.length < sizeLine) ∧ Q (up G a (.dN (dput kvs k v)))
        | none => False)
      | _ => False)
    | some (.dK kvs) => (match i.kK with
      | some k => kvs.length < sizeLine ∧ Q (up G a (.dK (dput kvs k v)))
      | none => False)
    | _ => False)
  | _ => False
theorem z37 (hu : X.A.units + 64 < cLine) : PSet X (zxx X.ml dSet) := by
  intro pins s σ H o i v ov iv u Q I ro ri rv ⟨do_, di, dv, G, P, hr, q1, q2, q3, t, k⟩
  cases do_ with
  | ref a =>
    rw [VR] at q1
    subst q1
    cases (show ov = Value.ref a from ro)
    cases hG : G a with
    | none =>
      have : False := by simpa [dSet, hG] using t
      exact this.elim
    | some ob =>
      cases ob with
      | rw _ _ _ =>
        have : False := by simpa [dSet, hG] using t
        exact this.elim
      | ins C fs =>
        have : False := by simpa [dSet, hG] using t
        exact this.elim
      | lst ds =>
        cases di with
        | int kk =>
          rw [VR] at q2; subst q2
          obtain ⟨vs, hv, r⟩ := hr a _ hG
          cases hj : ixN ds.length kk with
          | none =>
            have : False := by simpa [dSet, hG, hj] using t
            exact this.elim
          | some j =>
            have t : P (up G a (.lst (ds.set j dv))) := by simpa [dSet, hG, hj] using t
            have x : Ext H G (upd H a (.lst (vs.set j v))) (up G a (.lst (ds.set j dv))) := .write hG
            exact set_list pins s σ H (.ref a) _ v _ _ u Q I rfl ri rv ⟨a, vs, kk, j, rfl, rfl, hv, by rw [r.length]; exact hj, k _ _ t x (hr.write hG ⟨_, upd_same, (r.set j q3).ext hr x⟩)⟩
        | _ =>
          have : False := by simpa [dSet, hG] using t
          exact this.elim
      | dK kvs =>
        cases ek : di.kK with
        | none =>
          have : False := by simpa [dSet, hG, ek] using t
          exact this.elim
        | some kk =>
          have t : kvs.length < sizeLine ∧ P (up G a (.dK (dput kvs kk dv))) := by simpa [dSet, hG, ek] using t
          obtain ⟨ws, hw, hks, r⟩ := hr a _ hG
          have e := zzt q2 ek
          subst e
          have x : Ext H G (upd H a (.dK (putK ws kk v))) (up G a (.dK (dput kvs kk dv))) := .write hG
          obtain ⟨p1, p2⟩ := z29 kk q3 hks r
          have hl : ws.length < sizeLine := by
            have := congrArg List.length hks
            rw [List.length_map, List.length_map] at this
            rw [this]; exact t.1
          exact d_setItem (by omega) I (.inl ⟨ws, kk, hw, rfl, hl, rfl⟩) ri rv fun s' I' => ⟨_, I', k _ _ t.2 x (hr.write hG ⟨_, upd_same, p1, p2.ext hr x⟩)⟩
      | dN kvs =>
        cases di with
        | nd kd ks =>
          cases kd with
          | tup =>
            cases ek : D.key (.nd .tup ks) with
            | none =>
              have : False := by simpa [dSet, hG, ek] using t
              exact this.elim
            | some kk =>
              have t : (kk.depth ≤ 8 ∧ kvs.length < sizeLine) ∧ P (up G a (.dN (dput kvs kk dv))) := by simpa [dSet, hG, ek] using t
              obtain ⟨⟨h8, hl⟩, t⟩ := t
              have ka := zs8 q2 ek
              rw [VR] at q2
              obtain ⟨b, vs, rfl, hb, rb⟩ := q2
              cases (show iv = Value.ref b from ri)
              obtain ⟨ws, dn, vr⟩ := hr a _ hG
              obtain ⟨xs, es, ep, h1, h2, h3, h4, h5, h6, h7, h9, h10⟩ := DnAt.of I dn
              refine wpAny_setItem_heap (hsz := by have := congrArg List.length h6; rw [List.length_map] at this; rw [this]; exact h7) (zr1 hu) ⟨zi8 I ka rfl, h8⟩ h4 fun h' hm' hs => ?_
              obtain ⟨H', I', x, r'⟩ := z3l (t' := s.toks + (nestedKind X.prog X.w).draws kk) I hr hG h1 h5 h4 h6 h9 h10 vr ka h8 q3 rv hl hm' hs
              exact ⟨H', I', k _ _ t x r'⟩
          | _ =>
            have : False := by simpa [dSet, hG] using t
            exact this.elim
        | _ =>
          have : False := by simpa [dSet, hG] using t
          exact this.elim
  | _ => exact t.elim
def zri (To Ti : DTE) (r : DSet) : DTG := fun v η G Q => To η G fun o G1 => Ti η G1 fun i G2 => r o i v G2 fun G3 => Q η G3
abbrev IxD (X : Cx) (r : DR2) : Prop := IxR X (zp6 X.ml r)
/-- the item at a place -/
def atD (ds : List D) (y : D) (Q : D → Prop) : Prop := match y with
  | .int i => (match atI ds i with
    | some d => Q d
    | none => False)
  | _ => False
def dIx : DR2 := fun x y G Q => match der x G with
  | .nd .lst ds => atD ds y fun d => Q d G
  | .nd .scr ds => atD ds y fun d => Q d G
  | .nd .tup ds => atD ds y fun d => Q d G
  | _ => match dicN x G with
    | some kvs => (match y with
      | .nd .tup ks => (match D.key (.nd .tup ks) with
        | some k => k.depth ≤ 8 ∧ (match dval kvs k with
          | some d => Q d G
          | none => False)
        | none => False)
      | _ => False)
    | none => match dicK x G with
      | some kvs => (match y.kK with
        | some k => (match dval kvs k with
          | some d => Q d G
          | none => False)
        | none => False)
      | none => False
theorem zyn {K : Ml} {H : Hp} {G : DHp} {ds : List D} {vs : List V} {i : Int} {d : D} (r : VRs K H G ds vs) (e : atI ds i = some d) : ∃ v, atI vs i = some v ∧ VR K H G d v := by
  unfold atI at e ⊢
  rw [r.length]
  cases h : ixN ds.length i with
  | none => rw [h] at e; cases e
  | some j =>
    rw [h] at e
    obtain ⟨v, e1, q⟩ := r.get (show ds[j]? = some d from e)
    exact ⟨v, e1, q⟩
theorem zsw {K : Ml} {H : Hp} {G : DHp} {P : D → DHp → Prop} {Q : VK} {d : D} {v : V} (k : ∀ d G' v H', P d G' → Ext H G H' G' → HR K H' G' → VR K H' G' d v → Q v H') (hr : HR K H G) (p : P d G) (q : VR K H G d v) : Q v H := k d G v H p (.refl _ _) hr q
theorem ixd (hu : X.A.units + 64 < cLine) : IxD X dIx := by
  intro value slice pins s σ H x y v u Q I rx ry ⟨dx, dy, G, P, hr, q1, q2, t, k⟩ hs
  have doL : ∀ (a : Addr) (ds : List D) (vs : List V), x = .ref a → SqL X.K H a vs → VRs X.ml H G ds vs → (atD ds dy fun d => P d G) → wpAny (model X.prog X.w) X.A (subscriptTail value slice v u) (EP X pins σ Q) X.xe s := by
    intro a ds vs e hq r t
    cases dy with
    | int i =>
      rw [VR] at q2; subst q2
      cases ea : atI ds i with
      | none =>
        have : False := by simpa [atD, ea] using t
        exact this.elim
      | some d =>
        have t : P d G := by simpa [atD, ea] using t
        obtain ⟨z, e2, q⟩ := zyn r ea
        exact ix_list value slice pins s σ H x _ v u Q I rx ry ⟨a, vs, i, z, e, rfl, hq, e2, zsw k hr t q⟩ hs
    | _ => exact t.elim
  unfold dIx at t
  split at t
  · rename_i ds e
    obtain ⟨a, vs, e1, h1, r1⟩ := zkm hr q1 e
    exact doL a ds vs e1 (.inl (.inl h1)) r1 t
  · rename_i ds e
    have e := zki e (fun _ h => nomatch h)
    rw [e, VR] at q1
    obtain ⟨a, vs, e1, h1, r1⟩ := q1
    exact doL a ds vs e1 (zci h1 (.inr rfl)) r1 t
  · rename_i ds e
    have e := zki e (fun _ h => nomatch h)
    rw [e, VR] at q1
    obtain ⟨a, vs, e1, h1, r1⟩ := q1
    cases dy with
    | int i =>
      rw [VR] at q2; subst q2
      cases ea : atI ds i with
      | none =>
        have : False := by simpa [atD, ea] using t
        exact this.elim
      | some d =>
        have t : P d G := by simpa [atD, ea] using t
        obtain ⟨z, e2, q⟩ := zyn r1 ea
        exact ix_tup value slice pins s σ H x _ v u Q I rx ry ⟨a, vs, i, z, e1, rfl, h1, e2, zsw k hr t q⟩ hs
    | _ => exact t.elim
  · split at t
    · rename_i kvs e
      cases dy with
      | nd kd ds =>
        cases kd with
        | tup =>
          cases ek : D.key (.nd .tup ds) with
          | none =>
            have : False := by simpa [ek] using t
            exact this.elim
          | some kk =>
            simp only [ek] at t
            obtain ⟨h8, t⟩ := t
            have ka := zs8 q2 ek
            obtain ⟨a, ws, rfl, dn, vr⟩ := zrk hr q1 e
            obtain ⟨xs, es, ep, h1, h2, h3, h4, h5, h6, h7, h9, h10⟩ := DnAt.of I dn
            rw [VR] at q2
            obtain ⟨b, vs, rfl, hb, rb⟩ := q2
            cases (show v = Value.ref a from rx)
            cases (show u = Value.ref b from ry)
            rcases zm5 (K := Unit) (k := kk) h10 kvs H G X.ml h6 vr with ⟨e1, e2⟩ | ⟨d, w, p, e1, e2, rw', qw⟩
            · rw [e1] at t; exact t.elim
            · rw [e1] at t
              exact tail_any h4.typeIs PySem.F.slot_dict_getitem.lookup (wpAny_getItem_heap (zr1 hu) ⟨zi8 I ka rfl, h8⟩ h4 e2 ⟨w, H, I.tok _, rw', zsw k hr t qw⟩) hs
        | _ => exact t.elim
      | _ => exact t.elim
    · split at t
      · rename_i kvs e
        cases ek : dy.kK with
        | none => rw [ek] at t; exact t.elim
        | some kk =>
          rw [ek] at t
          simp only at t
          obtain ⟨a, ws, rfl, rd, e1, vr⟩ := zrw hr q1 e
          cases (show v = Value.ref a from rx)
          have ex := zzt q2 ek
          subst ex
          rcases zr4 kk e1 vr with ⟨e2, e3⟩ | ⟨d, w, e2, e3, qw⟩
          · rw [e2] at t; exact t.elim
          · rw [e2] at t
            have g : DGet H a (kV kk) (some w) := .inl ⟨ws, kk, rd, rfl, e3.symm⟩
            exact tail_any (dict_typeIs I g) PySem.F.slot_dict_getitem.lookup (d_getItem (by omega) I g ry fun w' s' I' rw' => ⟨w, H, I', rw', zsw k hr t qw⟩) hs
      · exact t.elim
theorem zda [Bs] {a b : Expr} {pos : Pos} {r : DR2} {Ta Tb : DTE} (hr : IxD X r) (ha : PED X a Ta) (hb : PED X b Tb) (hs : PlainIx b := by intro _ _; rfl) : PED X (.Subscript a b pos) (dOp r Ta Tb) :=
  PE.impI (pe_ix hr ha hb hs) fun _ _ _ _ _ _ h => zsa h
abbrev DTO := DSt → DHp → (Option Int → DHp → Prop) → Prop
def z5j [Bs] (K : Ml) (T : DTO) : TO := fun σ H Q => ∃ η G P, SR K H G σ η ∧ HR K H G ∧ T η G P ∧ ∀ o G' H', P o G' → Ext H G H' G' → HR K H' G' → Q o H'
abbrev POD [Bs] (X : Cx) (e : Option Expr) (T : DTO) : Prop := PO X e (z5j X.ml T)
theorem PO.impI {e : Option Expr} {t t' : TO} (h : PO X e t) (i : ∀ pins s σ H Q, Inv X pins σ H s → t' σ H Q → t σ H Q) : PO X e t' := ⟨fun pins s σ H Q I q => h.run pins s σ H Q I (i _ _ _ _ _ I q)⟩
def zhc : DTO := fun _ G Q => Q none G
def zqe (T : DTE) : DTO := fun η G Q => T η G fun d G1 => match d with
  | .int i => Q (some i) G1
  | _ => False
theorem zzy [Bs] : POD X none zhc := PO.impI po_none fun _ _ _ H Q _ ⟨η, G, P, hs, hr, t, k⟩ => k none G H t (.refl _ _) hr
theorem zzr [Bs] {e : Expr} {T : DTE} (h : PED X e T) : POD X (some e) (zqe T) := PO.impI (po_some h) fun _ _ _ H Q _ ⟨η, G, P, hs, hr, t, k⟩ => ⟨η, G, _, hs, hr, t, fun d G1 v H1 p x r q => by
  cases d with
  | int i => rw [VR] at q; exact ⟨i, q, k (some i) G1 H1 p x r⟩
  | _ => exact p.elim⟩
def cutD (xs : List D) (lo hi : Option Int) : List D := (xs.drop (HT.sIx xs.length 0 lo)).take (HT.sIx xs.length xs.length hi - HT.sIx xs.length 0 lo)
theorem z1f {K : Ml} {H : Hp} {G : DHp} {ds : List D} {vs : List V} (r : VRs K H G ds vs) (lo hi : Option Int) : VRs K H G (cutD ds lo hi) (cutV vs lo hi) := by
  unfold cutD cutV
  rw [r.length]
  exact (r.drop _).take _
abbrev DSl := D → Option Int → Option Int → DHp → DVK → Prop
def z04 (K : Ml) (r : DSl) : V → Option Int → Option Int → Hp → VK → Prop := fun x lo hi H Q => ∃ d G P, HR K H G ∧ VR K H G d x ∧ r d lo hi G P ∧ ∀ d G' v H', P d G' → Ext H G H' G' → HR K H' G' → VR K H' G' d v → Q v H'
def dSl : DSl := fun x lo hi G Q => match der x G with
  | .nd .lst ds => Q (.nd .lst (cutD ds lo hi)) G
  | .nd .tup ds => Q (.nd .tup (cutD ds lo hi)) G
  | _ => False
theorem sld : SlR X (z04 X.ml dSl) := by
  intro pins s σ H x v vl vu lo hi sl Q I rx hs pl pu ⟨dx, G, P, hr, q1, t, k⟩
  unfold dSl at t
  split at t
  · rename_i ds e
    obtain ⟨a, vs, e1, h1, r1⟩ := zkm hr q1 e
    refine sl_list pins s σ H x v vl vu lo hi sl Q I rx hs pl pu ⟨a, vs, e1, .inl (.inl h1), fun p hp => ?_⟩
    have x2 : Ext H G (upd H p (.lst (cutV vs lo hi))) G := .laid hp
    refine k _ G _ _ t x2 (hr.laid hp) ?_
    rw [VR]
    exact ⟨p, _, rfl, ⟨hr.free hp, upd_same⟩, (z1f r1 lo hi).ext hr x2⟩
  · rename_i ds e
    have e := zki e (fun _ h => nomatch h)
    subst e
    rw [VR] at q1
    obtain ⟨a, vs, e1, h1, r1⟩ := q1
    refine sl_tupA pins s σ H x v vl vu lo hi sl Q I rx hs pl pu ⟨a, vs, e1, h1, fun hw => ?_, fun _ p hp => ?_⟩
    · refine k _ G _ H t (.refl _ _) hr ?_
      rw [VR]
      have e2 : cutD ds lo hi = ds := by
        unfold cutD
        have hw' : HT.sIx ds.length 0 lo = 0 ∧ HT.sIx ds.length ds.length hi = ds.length := by rw [← r1.length]; exact hw
        rw [hw'.1, hw'.2, List.drop_zero, Nat.sub_zero, List.take_length]
      rw [e2]
      exact ⟨a, vs, rfl, h1, r1⟩
    · have x2 : Ext H G (upd H p (.tup (cutV vs lo hi))) G := .laid hp
      refine k _ G _ _ t x2 (hr.laid hp) ?_
      rw [VR]
      exact ⟨p, _, rfl, .inl (.inl upd_same), (z1f r1 lo hi).ext hr x2⟩
  · exact t.elim
def zkr (r : DSl) (T : DTE) (Tl Th : DTO) : DTE := fun η G Q => T η G fun x G1 => Tl η G1 fun l G2 => Th η G2 fun u G3 => r x l u G3 Q
theorem zyk [Bs] {e : Expr} {lo hi : Option Expr} {p2 pos : Pos} {r : DSl} {T : DTE} {Tl Th : DTO} (hr : SlR X (z04 X.ml r)) (he : PED X e T) (hl : POD X lo Tl) (hu : POD X hi Th) : PED X (.Subscript e (.Slice lo hi none p2) pos) (zkr r T Tl Th) :=
  PE.impI (pe_slice hr he hl hu) fun _ _ σ H Q _ ⟨η, G, P, hs, hr, t, k⟩ =>
    ⟨η, G, _, hs, hr, t, fun d1 G1 v1 H1 p1 x1 r1 q1 => ⟨η, G1, _, hs.ext hr x1, r1, p1, fun l G2 H2 p2 x2 r2 => ⟨η, G2, _, (hs.ext hr x1).ext r1 x2, r2, p2, fun u G3 H3 p3 x3 r3 =>
      ⟨d1, G3, P, r3, (q1.ext r1 x2).ext r2 x3, p3, fun d G' v H' p x r q => k d G' v H' p (((x1.trans x2).trans x3).trans x) r q⟩⟩⟩⟩
def zjx (r r' : DR2) (Ta Tb Tc : DTE) : DTE := fun η G Q => Ta η G fun x G1 => Tb η G1 fun y G2 => r x y G2 fun z G3 => match z with
  | .bl k => if k = true then Tc η G3 fun w G4 => r' y w G4 Q else Q (.bl false) G3
  | _ => False
end
end DL
namespace DL
open PySem PySem.Spec PyProof.Rows L2
section
variable {X : Cx}
theorem zxb [Bs] {r r' : DR2} {Ta Tb Tc : DTE} {K : Ml} {σ : L2.St} {H : Hp} {Q : VK} (h : zoq K (zjx r r' Ta Tb Tc) σ H Q) : tChain (zp6 K r) (zp6 K r') (zoq K Ta) (zoq K Tb) (zoq K Tc) σ H Q :=
  let ⟨η, G, P, hs, hr, t, k⟩ := h
  ⟨η, G, _, hs, hr, t, fun d1 G1 v1 H1 p1 x1 r1 q1 => ⟨η, G1, _, hs.ext hr x1, r1, p1, fun d2 G2 v2 H2 p2 x2 r2 q2 =>
    ⟨d1, d2, G2, _, r2, q1.ext r1 x2, q2, p2, fun z G3 vz H3 p3 x3 r3 q3 => by
      cases z with
      | bl c =>
        rw [VR] at q3
        refine ⟨c, q3, ?_⟩
        cases c with
        | true =>
          rw [if_pos rfl]
          have p3 : Tc η G3 fun w G4 => r' d2 w G4 P := by simpa using p3
          exact ⟨η, G3, _, ((hs.ext hr x1).ext r1 x2).ext r2 x3, r3, p3, fun dw G4 vw H4 p4 x4 r4 q4 => ⟨d2, dw, G4, P, r4, ((q2.ext r2 x3).ext r3 x4), q4, p4, fun d G' v H' p x r q => k d G' v H' p ((((x1.trans x2).trans x3).trans x4).trans x) r q⟩⟩
        | false =>
          rw [if_neg Bool.false_ne_true]
          have p3 : P (.bl false) G3 := by simpa using p3
          exact k _ G3 _ H3 p3 ((x1.trans x2).trans x3) r3 (by rw [VR])
      | _ => exact p3.elim⟩⟩⟩
theorem zze [Bs] {a b c : Expr} {op op' : CmpOp} {pos : Pos} {r r' : DR2} {Ta Tb Tc : DTE} (ho : OpD X (compareOp op) r) (ho' : OpD X (compareOp op') r') (ha : PED X a Ta) (hb : PED X b Tb) (hc : PED X c Tc)
    (hm : lastMarks [op, op'] [b, c] = false := by with_unfolding_all rfl) : PED X (.Compare a [op, op'] [b, c] pos) (zjx r r' Ta Tb Tc) :=
  PE.impI (pe_chain ho ho' ha hb hc hm) fun _ _ _ _ _ _ h => zxb h
def dNeg (T : DTE) : DTE := fun η G Q => T η G fun d G1 => match d with
  | .int i => Q (.int (-i)) G1
  | _ => False
theorem zx1 [Bs] {a : Expr} {pos : Pos} {T : DTE} (h : PED X a T) : PED X (.UnaryOp .USub a pos) (dNeg T) :=
  PE.impI (pe_un un_neg h) fun _ _ σ H Q _ ⟨η, G, P, hs, hr, t, k⟩ => ⟨η, G, _, hs, hr, t, fun d G1 v H1 p x r q => by
    cases d with
    | int i =>
      rw [VR] at q
      exact ⟨i, q, k _ G1 _ H1 p x r (by rw [VR])⟩
    | _ => exact p.elim⟩
/-- what is done to a list of arguments -/
abbrev DRn := List D → DHp → DVK → Prop
def zw4 (K : Ml) (r : DRn) : List V → Hp → VK → Prop := fun vs H Q => ∃ ds G P, VRs K H G ds vs ∧ HR K H G ∧ r ds G P ∧ ∀ d G' v H', P d G' → Ext H G H' G' → HR K H' G' → VR K H' G' d v → Q v H'
abbrev zms (X : Cx) (f : Value) (r : DRn) : Prop := CallR X f (zw4 X.ml r)
def dCB (r : DRn) (T : DTA) : DTE := fun η G Q => T η G fun ds G1 => r ds G1 Q
theorem zu8 [Bs] {r : DRn} {T : DTA} {K : Ml} {σ : L2.St} {H : Hp} {Q : VK} (h : zoq K (dCB r T) σ H Q) : tCB (zw4 K r) (z27 K T) σ H Q :=
  let ⟨η, G, P, hs, hr, t, k⟩ := h
  ⟨η, G, _, hs, hr, t, fun ds G1 vs H1 p1 x1 r1 q1 => ⟨ds, G1, P, q1, r1, p1, fun d G' v H' p x r q => k d G' v H' p (x1.trans x) r q⟩⟩
theorem z8 [Bs] {id : String} {x : Str} {p pos : Pos} {e : Expr} {es : List Expr} {r : DRn} {T : DTA} (hc : zms X (.builtin id) r) (hm : X.mg x = none) (hv : bootBuiltins x = some (.builtin id)) (ha : PAD X (e :: es) T) (hg : Gl X x := by rfl) (hn : x ≠ "__name__" := by decide) (hdb : (x == ("__debug__" : Str)) = false := by decide)
    (he : starEach (e :: es) X.env = (false, eval e X.env) :: starEach es X.env := by rfl) (hpl : (backTo pos (starEach es X.env)).any (·.1) = false := by rfl) : PED X (.Call (.Name x p) (e :: es) [] pos) (dCB r T) :=
  PE.impI (pe_callB hc hg hm hv ha hn hdb he hpl) fun _ _ _ _ _ _ h => zu8 h
theorem zcq [Bs] {id : String} {x : Str} {p pos : Pos} {e : Expr} {es : List Expr} {r : DRn} {T : DTA} (hc : zms X (.type id) r) (hm : X.mg x = none) (hv : bootBuiltins x = some (.type id)) (ha : PAD X (e :: es) T) (hg : Gl X x := by rfl) (hn : x ≠ "__name__" := by decide) (hdb : (x == ("__debug__" : Str)) = false := by decide)
    (he : starEach (e :: es) X.env = (false, eval e X.env) :: starEach es X.env := by rfl) (hpl : (backTo pos (starEach es X.env)).any (·.1) = false := by rfl) : PED X (.Call (.Name x p) (e :: es) [] pos) (dCB r T) :=
  PE.impI (pe_callTy hc hg hm hv ha hn hdb he hpl) fun _ _ _ _ _ _ h => zu8 h
theorem zxk : Passes CX0 X fun _ _ _ => False := fun _ _ _ _ _ _ _ h => h.elim
/-- a def of the text keeps the promise sp -/
abbrev FnD (P : Program) (w : World) (K : PySem.W.Frag) (mg : Str → Option Value) (base : Heap) (k : Nat) (f : Addr) (fd : FuncData) (ps : List Str) (sp : DRn) : Prop := FnOk P w K mg base CX0 k f fd ps fun vs H Q _ => zw4 ⟨K, w⟩ sp vs H Q
theorem zu [Bs] {k : Nat} {f : Addr} {fd : FuncData} {ps : List Str} {sp : DRn} {x : Str} {p pos : Pos} {e : Expr} {es : List Expr} {T : DTA} (F : FnD X.prog X.w X.K X.mg X.base k f fd ps sp) (hr : Room k X.A) (hm : X.mg x = some (.ref f)) (hk : PySem.W.keepIn X.K (.ref f) = true) (hb : Binds X.K fd ps [])
    (ha : PAD X (e :: es) T) (hg : Gl X x := by rfl) (hdb : (x == ("__debug__" : Str)) = false := by decide) (he : starEach (e :: es) X.env = (false, eval e X.env) :: starEach es X.env := by rfl) (hpl : (backTo pos (starEach es X.env)).any (·.1) = false := by rfl) :
    PED X (.Call (.Name x p) (e :: es) [] pos) (dCB sp T) :=
  PE.impI (pe_call F hr hg hm hk hb .nil (zxk (X := X)) ha hdb he hpl) fun _ _ _ _ _ _ h => by
    obtain ⟨η, G, P, hs, hr, t, k⟩ := zu8 h
    exact ⟨η, G, P, hs, hr, t, fun ds G' vs H' p x r q => by
      show zw4 X.ml sp (vs ++ []) H' _
      rw [List.append_nil]
      exact k ds G' vs H' p x r q⟩
def tyD (T : String) (d : D) (G : DHp) : Prop := match d with
  | .str _ => T = "str"
  | .ref a => (match G a with
    | some (.lst _) => T = "list"
    | some (.dK _) => T = "dict"
    | some (.dN _) => T = "dict"
    | _ => False)
  | .nd .lst _ => T = "list"
  | .nd .scr _ => T = "list"
  | .nd (.dK _) _ => T = "dict"
  | .nd (.dN _) _ => T = "dict"
  | _ => False
theorem z3b {pins : List (Addr × Obj)} {σ : L2.St} {H : Hp} {s : Shared} {a : Addr} {ks : List NestedKey} {vs : List V} (I : Inv X pins σ H s) (h : DnAt X.ml H a ks vs) :
    s.TypeIs (.ref a) "dict" ∧ (∀ b, Value.ref a = .ref b → ∃ ob, s.heap.get? b = some ob ∧ ob.dict = none) ∧ (a == sysModules) = false := by
  obtain ⟨xs, es, ep, h1, h2, h3, h4, h5, _⟩ := DnAt.of I h
  refine ⟨h4.typeIs, fun b q => ?_, h5⟩
  cases q
  obtain ⟨ob, ho, hx, _⟩ := h2
  exact ⟨ob, ho, hx.2.1⟩
theorem z4n {pins : List (Addr × Obj)} {σ : L2.St} {H : Hp} {G : DHp} {s : Shared} {T : String} {d : D} {x : V} {v : Value} (I : Inv X pins σ H s) (hr : HR X.ml H G) (q : VR X.ml H G d x) (r : RelV x v) (ty : tyD T d G) :
    s.TypeIs v T ∧ ∀ a, v = .ref a → ∃ ob, s.heap.get? a = some ob ∧ ob.dict = none := by
  have doL : ∀ (a : Addr) (vs : List V), x = .ref a → SqL X.K H a vs → s.TypeIs v "list" ∧ ∀ a, v = .ref a → ∃ ob, s.heap.get? a = some ob ∧ ob.dict = none := fun a vs e hq => by
    subst e
    exact tyV_is (T := "list") I r (.inl ⟨rfl, vs, hq⟩)
  have doK : ∀ (a : Addr), x = .ref a → IsD H a → s.TypeIs v "dict" ∧ ∀ a, v = .ref a → ∃ ob, s.heap.get? a = some ob ∧ ob.dict = none := fun a e hq => by
    subst e
    cases (show v = Value.ref a from r)
    exact ⟨(isD_at I hq).1, (isD_at I hq).2.1⟩
  have doN : ∀ (a : Addr) (ks : List NestedKey) (vs : List V), x = .ref a → DnAt X.ml H a ks vs → s.TypeIs v "dict" ∧ ∀ a, v = .ref a → ∃ ob, s.heap.get? a = some ob ∧ ob.dict = none := fun a ks vs e hq => by
    subst e
    cases (show v = Value.ref a from r)
    exact ⟨(z3b I hq).1, (z3b I hq).2.1⟩
  cases d with
  | str z =>
    rw [VR] at q; subst q
    cases (show T = "str" from ty)
    exact tyV_is I r (show tyV X.K "str" (.str z) H from rfl)
  | ref a =>
    rw [VR] at q
    cases e : G a with
    | none =>
      have : False := by simpa [tyD, e] using ty
      exact this.elim
    | some o =>
      have u := hr a o e
      cases o with
      | lst ds =>
        have : T = "list" := by simpa [tyD, e] using ty
        subst this
        obtain ⟨vs, z, _⟩ := u
        exact doL a vs q (.inl (.inl z))
      | dK ds =>
        have : T = "dict" := by simpa [tyD, e] using ty
        subst this
        obtain ⟨ws, z, _⟩ := u
        exact doK a q (.inl ⟨ws, .inl z⟩)
      | dN ds =>
        have : T = "dict" := by simpa [tyD, e] using ty
        subst this
        obtain ⟨ws, z, _⟩ := u
        exact doN a _ ws q z
      | rw _ _ _ =>
        have : False := by simpa [tyD, e] using ty
        exact this.elim
      | ins C fs =>
        have : False := by simpa [tyD, e] using ty
        exact this.elim
  | nd k ds =>
    rw [VR] at q
    obtain ⟨a, vs, e, hh, _⟩ := q
    cases k with
    | lst =>
      cases (show T = "list" from ty)
      exact doL a vs e (zci hh (.inl rfl))
    | scr =>
      cases (show T = "list" from ty)
      exact doL a vs e (zci hh (.inr rfl))
    | dK ks =>
      cases (show T = "dict" from ty)
      obtain ⟨_, o, z⟩ := hh
      exact doK a e (.inl ⟨_, .inr ⟨o, z⟩⟩)
    | dN ks =>
      cases (show T = "dict" from ty)
      exact doN a ks vs e hh.2
    | _ => exact ty.elim
  | _ => exact ty.elim
abbrev MtD (X : Cx) (id : String) (r : DRn) : Prop := zms X (.builtin id) r
def dM0 (T : String) (r : DRn) (To : DTE) : DTE := fun η G Q => To η G fun x G1 => tyD T x G1 ∧ r [x] G1 Q
def dM (T : String) (r : DRn) (To : DTE) (Ta : DTA) : DTE := fun η G Q => To η G fun x G1 => tyD T x G1 ∧ Ta η G1 fun ds G2 => r (x :: ds) G2 Q
theorem z3g [Bs] {T id : String} {o e : Expr} {es : List Expr} {name : Str} {apos cpos : Pos} {r : DRn} {To : DTE} {Ta : DTA} (pa : PlainAttrs T) (slot : Slot T name id) (hty : typeOf (.builtin id) = pure (.type "method_descriptor")) (hm : MtD X id r) (ho : PED X o To) (ha : PAD X (e :: es) Ta)
    (hbase : attributeBase o name X.env (eval o X.env) = eval o X.env := by rfl)
    (hfew : ((backTo cpos (starEach (e :: es) X.env)).all (fun x => !x.1) && (backToKw cpos (keywordEach [] X.env)).all (fun x => x.1.isSome)
      && decide ((e :: es).length + ([] : List Keyword).length + (if ([] : List Keyword).isEmpty then 0 else 1) < 30)) = true := by rfl)
    (hline : (apos.endLine == cpos.line) = true := by rfl) (hs : starEach (e :: es) X.env = (false, eval e X.env) :: starEach es X.env := by rfl) (hplain : (backTo cpos (starEach es X.env)).any (·.1) = false := by rfl) :
    PED X (.Call (.Attribute o name apos) (e :: es) [] cpos) (dM T r To Ta) := by
  refine ⟨fun pins s σ H Q I ⟨η, G, P, hs', hr, t, k⟩ => ?_⟩
  refine wpAny_Call_method_late hbase hfew hline rfl (thn (ho.run pins s σ H (fun v H1 => ∃ d G1, (tyD T d G1 ∧ Ta η G1 fun ds G2 => r (d :: ds) G2 P) ∧ Ext H G H1 G1 ∧ HR X.ml H1 G1 ∧ VR X.ml H1 G1 d v) I ⟨η, G, _, hs', hr, t, fun d G1 v H1 p x r q => ⟨d, G1, p, x, r, q⟩⟩) fun v s1 ⟨x, H1, I1, r1, d, G1, ⟨ty, p⟩, x1, hr1, q1⟩ => ?_)
  obtain ⟨h1, h2⟩ := z4n I1 hr1 q1 r1 ty
  refine ⟨T, id, pa, slot, hty, h1, h2, ?_⟩
  have hA := ha.run cpos pins s1 σ H1 (fun vs H2 => ∃ ds G2, r (d :: ds) G2 P ∧ Ext H1 G1 H2 G2 ∧ HR X.ml H2 G2 ∧ VRs X.ml H2 G2 ds vs) I1 ⟨η, G1, _, hs'.ext hr x1, hr1, p, fun ds G2 vs H2 p x r q => ⟨ds, G2, p, x, r, q⟩⟩
  rw [hs] at hA ⊢
  refine Calls.callWith_builtin (by show (false || (backTo cpos (starEach es X.env)).any (·.1)) = false; rw [hplain] <;> rfl) (Calls.evalArgs_plain ?_)
  exact thn hA fun us s2 ⟨vs, H2, I2, r2, ds, G2, p2, x2, hr2, q2⟩ => hm pins s2 σ H2 (x :: vs) (v :: us) Q I2 (.cons r1 r2) ⟨d :: ds, G2, P, .cons (q1.ext hr1 x2) q2, hr2, p2, fun d G' v H' p x r q => k d G' v H' p ((x1.trans x2).trans x) r q⟩
theorem zwa {f : Value} {r : DRn} (h : ∀ pins s σ H G vs us ds P, Inv X pins σ H s → Vals vs us → HR X.ml H G → VRs X.ml H G ds vs → r ds G P →
    wpAny (model X.prog X.w) X.A (call f us) (fun w s' => ∃ z d H' G', Inv X pins σ H' s' ∧ RelV z w ∧ P d G' ∧ Ext H G H' G' ∧ HR X.ml H' G' ∧ VR X.ml H' G' d z) X.xe s) : zms X f r := by
  intro pins s σ H vs us Q I r ⟨ds, G, P, q, hr, t, k⟩
  exact thn (h pins s σ H G vs us ds P I r hr q t) fun w s' ⟨z, d, H', G', I', rz, p, x', r', q'⟩ => ⟨z, H', I', rz, k d G' z H' p x' r' q'⟩
/-- what is asked of one argument -/
def d1 (g : D → DHp → DVK → Prop) : DRn := fun ds G Q => match ds with
  | [d] => g d G Q
  | _ => False
def d2 (g : D → D → DHp → DVK → Prop) : DRn := fun ds G Q => match ds with
  | [d, e] => g d e G Q
  | _ => False
def d3 (g : D → D → D → DHp → DVK → Prop) : DRn := fun ds G Q => match ds with
  | [d, e, f] => g d e f G Q
  | _ => False
theorem zqc {f : Value} {g : D → DHp → DVK → Prop} (h : ∀ pins s σ H G x v d P, Inv X pins σ H s → RelV x v → HR X.ml H G → VR X.ml H G d x → g d G P →
    wpAny (model X.prog X.w) X.A (call f [v]) (fun w s' => ∃ z d H' G', Inv X pins σ H' s' ∧ RelV z w ∧ P d G' ∧ Ext H G H' G' ∧ HR X.ml H' G' ∧ VR X.ml H' G' d z) X.xe s) : zms X f (d1 g) := zwa fun pins s σ H G vs us ds P I r hr q t => by
  match ds, q, t with
  | [d], q, t =>
    obtain ⟨x, vs, rfl, q1, q2⟩ := q.uncons
    cases q2.nil_of
    obtain ⟨u, rfl, r1⟩ := r.one
    exact h pins s σ H G x u d P I r1 hr q1 t
  | [], _, t => exact t.elim
  | _ :: _ :: _, _, t => exact t.elim
theorem z1e {f : Value} {g : D → D → DHp → DVK → Prop} (h : ∀ pins s σ H G x y v u d e P, Inv X pins σ H s → RelV x v → RelV y u → HR X.ml H G → VR X.ml H G d x → VR X.ml H G e y → g d e G P →
    wpAny (model X.prog X.w) X.A (call f [v, u]) (fun w s' => ∃ z d H' G', Inv X pins σ H' s' ∧ RelV z w ∧ P d G' ∧ Ext H G H' G' ∧ HR X.ml H' G' ∧ VR X.ml H' G' d z) X.xe s) : zms X f (d2 g) := zwa fun pins s σ H G vs us ds P I r hr q t => by
  match ds, q, t with
  | [d, e], q, t =>
    obtain ⟨x, vs, rfl, q1, q2⟩ := q.uncons
    obtain ⟨y, vs, rfl, q3, q4⟩ := q2.uncons
    cases q4.nil_of
    obtain ⟨u, v, rfl, r1, r2⟩ := r.two
    exact h pins s σ H G x y u v d e P I r1 r2 hr q1 q3 t
  | [], _, t => exact t.elim
  | [_], _, t => exact t.elim
  | _ :: _ :: _ :: _, _, t => exact t.elim
/-- the list tracked at d -/
def onL (d : D) (G : DHp) (g : Addr → List D → Prop) : Prop := match d with
  | .ref a => (match G a with
    | some (.lst ds) => g a ds
    | _ => False)
  | _ => False
theorem z1i {d : D} {G : DHp} {g : Addr → List D → Prop} (h : onL d G g) : ∃ a ds, d = .ref a ∧ G a = some (.lst ds) ∧ g a ds := by
  cases d with
  | ref a =>
    have h : (match G a with | some (.lst ds) => g a ds | _ => False) := h
    cases e : G a with
    | none => rw [e] at h; exact h.elim
    | some o =>
      rw [e] at h
      cases o with
      | lst ds => exact ⟨a, ds, rfl, e, h⟩
      | _ => exact h.elim
  | _ => exact h.elim
theorem z3w {a : Addr} {G : DHp} {ds : List D} {g : Addr → List D → Prop} (e : G a = some (.lst ds)) (h : g a ds) : onL (.ref a) G g := by
  show (match G a with | some (.lst ds) => g a ds | _ => False)
  rw [e]; exact h
def zro : DRn := d2 fun l y G Q => onL l G fun a ds => ds.length < sizeLine ∧ Q .non (up G a (.lst (ds ++ [y])))
theorem zuh : MtD X "list.append" zro := z1e fun pins s σ H G x y v u d e P I rx ry hr q1 q2 t => by
  obtain ⟨a, ds, rfl, hG, hz, t⟩ := z1i t
  rw [VR] at q1; subst q1
  obtain ⟨vs, hv, r⟩ := hr a _ hG
  have x1 : Ext H G (upd H a (.lst (vs ++ [y]))) (up G a (.lst (ds ++ [e]))) := .write hG
  exact thn (mt_append pins s σ H _ [y] v [u] (fun z H' => z = .non ∧ H' = upd H a (.lst (vs ++ [y]))) I rx (.cons ry .nil) ⟨a, vs, y, rfl, rfl, hv, by rw [r.length]; exact hz, rfl, rfl⟩) fun w s' ⟨z, H', I', rz, e1, e2⟩ => by
    subst e1 e2
    exact ⟨.non, .non, _, _, I', rz, t, x1, hr.write hG ⟨_, upd_same, (r.append (.cons q2 .nil)).ext hr x1⟩, by rw [VR]⟩
def zzs : DR2 := fun x y G Q => match x, y with
  | .int i, .int j => Q (.int (i + j)) G
  | .str a, .str b => a.length + b.length ≤ sizeLine ∧ Q (.str (a ++ b)) G
  | .ref a, y => onL (.ref a) G fun a ds => (match der y G with
    | .nd .lst es => ds.length + es.length ≤ sizeLine ∧ Q (.ref a) (up G a (.lst (ds ++ es)))
    | _ => False)
  | _, _ => False
theorem z17 : OpD X (inplaceOp .Add) zzs := zkv fun pins s σ H G x y v u dx dy P I rx ry hr q1 q2 t => by
  unfold zzs at t
  split at t
  · rename_i i j
    rw [VR] at q1 q2
    subst q1 q2
    obtain ⟨t1, rfl⟩ := rx
    obtain ⟨t2, rfl⟩ := ry
    exact iadd_int (zbo (z := .int (i + j)) (I.tok _) ⟨_, rfl⟩ hr (by rw [VR]) t)
  · rename_i i j
    rw [VR] at q1 q2
    subst q1 q2
    exact thn (iop_add_str pins s σ H _ _ v u (fun z H' => z = .str (i ++ j) ∧ H' = H) I rx ry ⟨i, j, rfl, rfl, t.1, rfl, rfl⟩) fun w s' ⟨z, H', I', rz, e1, e2⟩ => by
      subst e1 e2
      exact zbo I' rz hr (by rw [VR]) t.2
  · rename_i a
    obtain ⟨a, ds, e0, hG, t⟩ := z1i t
    cases e0
    rw [VR] at q1; subst q1
    obtain ⟨vs, hv, r⟩ := hr a _ hG
    split at t
    · rename_i es ed
      obtain ⟨b, ws, e1, h1, r1⟩ := zkm hr q2 ed
      subst e1
      have x1 : Ext H G (upd H a (.lst (vs ++ ws))) (up G a (.lst (ds ++ es))) := .write hG
      exact thn (iop_ext pins s σ H _ _ v u (fun z H' => z = .ref a ∧ H' = upd H a (.lst (vs ++ ws))) I rx ry ⟨a, b, vs, ws, rfl, rfl, hv, h1, by rw [r.length, r1.length]; exact t.1, rfl, rfl⟩) fun w s' ⟨z, H', I', rz, e1, e2⟩ => by
        subst e1 e2
        exact ⟨.ref a, .ref a, _, _, I', rz, t.2, x1, hr.write hG ⟨_, upd_same, (r.append r1).ext hr x1⟩, by rw [VR]⟩
    · exact t.elim
  · exact t.elim
def dAug (i : Nat) (T : DTE) (r : DR2) : DTS := fun F η G => match η[i]? with
  | some (some x) => T η G fun y G1 => r x y G1 fun z G2 => F.nx (η.set i (some z)) G2
  | _ => False
/-- o[i], of a list -/
def zyc : DR2 := fun x y G Q => match der x G with
  | .nd .lst ds => atD ds y fun d => Q d G
  | _ => False
theorem zzq : OpD X getItem zyc := zkv fun pins s σ H G x y v u dx dy P I rx ry hr q1 q2 t => by
  unfold zyc at t
  split at t
  · rename_i ds e
    obtain ⟨a, vs, rfl, h1, r1⟩ := zkm hr q1 e
    cases dy with
    | int i =>
      rw [VR] at q2; subst q2
      cases ea : atI ds i with
      | none =>
        have : False := by simpa [atD, ea] using t
        exact this.elim
      | some d =>
        have t : P d G := by simpa [atD, ea] using t
        obtain ⟨z, e2, q⟩ := zyn r1 ea
        cases rx
        obtain ⟨tk, rfl⟩ := ry
        obtain ⟨its, r, pl, hz⟩ := I.list (.inl (.inl h1))
        obtain ⟨j, g1, g2, g3, g4, g5⟩ := atI_get e2
        obtain ⟨w, ew, rw'⟩ := r.get g2
        have hl := r.length
        have fin : ∃ z d H' G', Inv X pins σ H' s ∧ RelV z w ∧ P d G' ∧ Ext H G H' G' ∧ HR X.ml H' G' ∧ VR X.ml H' G' d z := zbo I rw' hr q t
        have hn := line63
        by_cases h0 : 0 ≤ i
        · have hj : i.toNat = j := by
            rw [seqIndex_of h0 g5] at g1
            exact Option.some.inj g1
          exact wpAny_getItem_list pl.isList h0 (by omega) (by rw [hj]; simpa using ew) fin
        · have hj : (i + (its.toArray.size : Int)).toNat = j := by
            rw [seqIndex_neg (by omega) g4] at g1
            rw [List.size_toArray, ← hl]
            exact Option.some.inj g1
          exact wpAny_getItem_list_neg pl.isList (by omega) (by rw [List.size_toArray] <;> omega) (by omega) (by rw [hj]; simpa using ew) fin
    | _ => exact t.elim
  · exact t.elim
def zpm (To Ti Te : DTE) (rg rp : DR2) (rs : DSet) : DTS := fun F η G => To η G fun o G1 => Ti η G1 fun i G2 => rg o i G2 fun x G3 => Te η G3 fun y G4 => rp x y G4 fun z G5 => rs o i z G5 fun G6 => F.nx η G6
theorem zzp [Bs] {o i e : Expr} {To Ti Te : DTE} {rg rp : DR2} {rs : DSet} {op : Operator} {tpos pos : Pos} (ho : PED X o To) (hi : PED X i Ti) (hg : OpD X getItem rg) (he : PED X e Te) (hp : OpD X (inplaceOp op) rp) (hs : PSet X (zxx X.ml rs))
    (ha : ∀ ov iv new, augStore i ov iv new = (do holding [new, ov, iv] (setItem ov iv new); release [new, ov, iv] []; pure .next) := by intros; rfl) : PSD X (.AugAssign (.Subscript o i tpos) op e pos) (zpm To Ti Te rg rp rs) :=
  PS.impI (ps_augS ho hi (show PGet X (zp6 X.ml rg) from hg) he (show PIp X op (zp6 X.ml rp) from hp) hs ha) fun _ _ σ H E _ ⟨η, G, F, hs, hr, t, k⟩ =>
    ⟨η, G, _, hs, hr, t, fun d1 G1 v1 H1 p1 x1 r1 q1 => ⟨η, G1, _, hs.ext hr x1, r1, p1, fun d2 G2 v2 H2 p2 x2 r2 q2 =>
      ⟨d1, d2, G2, _, r2, q1.ext r1 x2, q2, p2, fun d3 G3 v3 H3 p3 x3 r3 q3 => ⟨η, G3, _, hs.ext hr ((x1.trans x2).trans x3), r3, p3, fun d4 G4 v4 H4 p4 x4 r4 q4 =>
        ⟨d3, d4, G4, _, r4, q3.ext r3 x4, q4, p4, fun d5 G5 v5 H5 p5 x5 r5 q5 => ⟨d1, d2, d5, G5, _, r5, q1.ext r1 (((x2.trans x3).trans x4).trans x5), q2.ext r2 ((x3.trans x4).trans x5), q5, p5, fun G6 H6 p6 x6 r6 =>
          k.nx η G6 σ H6 p6 (((((x1.trans x2).trans x3).trans x4).trans x5).trans x6) (hs.ext hr (((((x1.trans x2).trans x3).trans x4).trans x5).trans x6)) r6⟩⟩⟩⟩⟩⟩
end
end DL
namespace DL
open PySem PySem.Spec PyProof.Rows L2
section
variable {X : Cx}
def sqD (d : D) (G : DHp) : Option (List D) := match der d G with
  | .nd .lst ds => some ds
  | .nd .scr ds => some ds
  | .nd .tup ds => some ds
  | _ => none
/-- .. lists alone -/
def lsD (d : D) (G : DHp) : Option (List D) := match der d G with
  | .nd .lst ds => some ds
  | .nd .scr ds => some ds
  | _ => none
theorem zty {K : Ml} {H : Hp} {G : DHp} (hr : HR K H G) {d : D} {v : V} {ds : List D} (h : VR K H G d v) (e : lsD d G = some ds) : ∃ a vs, v = .ref a ∧ SqL K.K H a vs ∧ VRs K H G ds vs := by
  unfold lsD at e
  split at e
  · rename_i es e1
    cases e
    obtain ⟨a, vs, rfl, h1, r1⟩ := zkm hr h e1
    exact ⟨a, vs, rfl, .inl (.inl h1), r1⟩
  · rename_i es e1
    cases e
    have e1 := zki e1 (fun _ h => nomatch h)
    subst e1
    rw [VR] at h
    obtain ⟨a, vs, rfl, h1, r1⟩ := h
    exact ⟨a, vs, rfl, zci h1 (.inr rfl), r1⟩
  · cases e
theorem zxz {K : Ml} {H : Hp} {G : DHp} (hr : HR K H G) {d : D} {v : V} {ds : List D} (h : VR K H G d v) (e : sqD d G = some ds) : ∃ a vs, v = .ref a ∧ (SqL K.K H a vs ∨ SqT K.K H a vs) ∧ VRs K H G ds vs := by
  unfold sqD at e
  split at e
  · rename_i es e1
    cases e
    obtain ⟨a, vs, rfl, h1, r1⟩ := zkm hr h e1
    exact ⟨a, vs, rfl, .inl (.inl (.inl h1)), r1⟩
  · rename_i es e1
    cases e
    have e1 := zki e1 (fun _ h => nomatch h)
    subst e1
    rw [VR] at h
    obtain ⟨a, vs, rfl, h1, r1⟩ := h
    exact ⟨a, vs, rfl, .inl (zci h1 (.inr rfl)), r1⟩
  · rename_i es e1
    cases e
    have e1 := zki e1 (fun _ h => nomatch h)
    subst e1
    rw [VR] at h
    obtain ⟨a, vs, rfl, h1, r1⟩ := h
    exact ⟨a, vs, rfl, .inr h1, r1⟩
  · cases e
def dLen : DRn := d1 fun d G Q => match sqD d G with
  | some ds => Q (.int ds.length) G
  | none => match dicN d G with
    | some kvs => Q (.int kvs.length) G
    | none => match dicK d G with
      | some kvs => Q (.int kvs.length) G
      | none => match d with
        | .str x => x.length ≤ sizeLine ∧ Q (.int x.length) G
        | _ => False
theorem zna : zms X (.builtin "len") dLen := zqc fun pins s σ H G x v d P I rx hr q1 t => by
  split at t
  · rename_i ds e
    obtain ⟨a, vs, rfl, hq, r⟩ := zxz hr q1 e
    exact thn (call_len_seq pins s σ H [.ref a] [v] (fun z H' => z = .int ds.length ∧ H' = H) I (.cons rx .nil) ⟨a, vs, rfl, hq, by rw [r.length], rfl⟩) fun w s' ⟨z, H', I', rz, e1, e2⟩ => by
      subst e1 e2
      exact zbo I' rz hr (by rw [VR]) t
  · split at t
    · rename_i kvs e
      obtain ⟨a, ws, rfl, dn, vr⟩ := zrk hr q1 e
      obtain ⟨xs, es, ep, h1, h2, h3, h4, h5, h6, h7, _⟩ := DnAt.of I dn
      cases (show v = Value.ref a from rx)
      have hl : xs.length = kvs.length := by have := congrArg List.length h6; simpa using this
      have hn := line63
      refine call_len_dictH h5 h4 (by rw [List.length_map] at h7; omega) ?_
      rw [hl]
      exact zbo (z := .int kvs.length) (I.tok _) ⟨_, rfl⟩ hr (by rw [VR]) t
    · split at t
      · rename_i kvs e
        obtain ⟨a, ws, rfl, rd, e1, vr⟩ := zrw hr q1 e
        cases (show v = Value.ref a from rx)
        have hl : ws.length = kvs.length := by have := congrArg List.length e1; simpa using this
        refine d_len I rd fun tk s' I' => ?_
        rw [hl]
        exact zbo (z := .int kvs.length) I' ⟨_, rfl⟩ hr (by rw [VR]) t
      · split at t
        · rename_i z _ _ _
          rw [VR] at q1; subst q1
          exact thn (call_len_str pins s σ H [.str z] [v] (fun z' H' => z' = .int z.length ∧ H' = H) I (.cons rx .nil) ⟨z, rfl, t.1, rfl, rfl⟩) fun w s' ⟨z', H', I', rz, e1, e2⟩ => by
            subst e1 e2
            exact zbo I' rz hr (by rw [VR]) t.2
        · exact t.elim
def dInt : DRn := d1 fun d G Q => match d with
  | .int i => Q (.int i) G
  | .bl b => Q (.int (if b then 1 else 0)) G
  | _ => False
theorem zq8 : zms X (.type "int") dInt := zqc fun pins s σ H G x v d P I rx hr q1 t => by
  cases d with
  | int i =>
    rw [VR] at q1; subst q1
    exact thn (call_int1 pins s σ H [.int i] [v] (fun z' H' => z' = .int i ∧ H' = H) I (.cons rx .nil) (.inl ⟨i, rfl, rfl, rfl⟩)) fun w s' ⟨z', H', I', rz, e1, e2⟩ => by
      subst e1 e2
      exact zbo I' rz hr (by rw [VR]) t
  | bl i =>
    rw [VR] at q1; subst q1
    exact thn (call_int1 pins s σ H [.bl i] [v] (fun z' H' => z' = .int (if i then 1 else 0) ∧ H' = H) I (.cons rx .nil) (.inr ⟨i, rfl, rfl, rfl⟩)) fun w s' ⟨z', H', I', rz, e1, e2⟩ => by
      subst e1 e2
      exact zbo I' rz hr (by rw [VR]) t
  | _ => exact t.elim
theorem VRs.bls {K : Ml} {H : Hp} {G : DHp} {bs : List Bool} {vs : List V} (h : VRs K H G (bs.map D.bl) vs) : vs = bs.map V.bl :=
  h.map_eq _ _ fun a v q => by rw [VR] at q; exact q
def dAny : DRn := d1 fun d G Q => ∃ bs : List Bool, lsD d G = some (bs.map .bl) ∧ Q (.bl (bs.any id)) G
def dAll : DRn := d1 fun d G Q => ∃ bs : List Bool, lsD d G = some (bs.map .bl) ∧ Q (.bl (bs.all id)) G
theorem z4q (hc : X.calm = true) : zms X (.builtin "any") dAny := zqc fun pins s σ H G x v d P I rx hr q1 ⟨ns, e, t⟩ => by
  obtain ⟨a, vs, rfl, hq, r⟩ := zty hr q1 e
  have e3 := r.bls; subst e3
  exact thn (cr_any hc pins s σ H [.ref a] [v] (fun z' H' => z' = .bl (ns.any id) ∧ H' = H) I (.cons rx .nil) ⟨a, ns, rfl, hq, rfl, rfl⟩) fun w s' ⟨z', H', I', rz, e1, e2⟩ => by
    subst e1 e2
    exact zbo I' rz hr (by rw [VR]) t
theorem zoa (hc : X.calm = true) : zms X (.builtin "all") dAll := zqc fun pins s σ H G x v d P I rx hr q1 ⟨ns, e, t⟩ => by
  obtain ⟨a, vs, rfl, hq, r⟩ := zty hr q1 e
  have e3 := r.bls; subst e3
  exact thn (cr_all hc pins s σ H [.ref a] [v] (fun z' H' => z' = .bl (ns.all id) ∧ H' = H) I (.cons rx .nil) ⟨a, ns, rfl, hq, rfl, rfl⟩) fun w s' ⟨z', H', I', rz, e1, e2⟩ => by
    subst e1 e2
    exact zbo I' rz hr (by rw [VR]) t
def zll : DRn := d1 fun d G Q => match sqD d G with
  | some ds => Q (.nd .tup ds) G
  | none => False
theorem zjq : zms X (.type "tuple") zll := zqc fun pins s σ H G x v d P I rx hr q1 t => by
  split at t
  · rename_i ds e
    obtain ⟨a, vs, rfl, hq, r⟩ := zxz hr q1 e
    refine thn (call_tuple_of pins s σ H [.ref a] [v] (fun z H' => Ext H G H' G ∧ HR X.ml H' G ∧ VR X.ml H' G (.nd .tup ds) z) I (.cons rx .nil) ⟨a, vs, rfl, ?_⟩) fun w s' ⟨z, H', I', rz, x', r', q'⟩ => ⟨z, _, H', G, I', rz, t, x', r', q'⟩
    rcases hq with hq | hq
    · refine .inl ⟨hq, fun l hl => ?_⟩
      have x2 : Ext H G (upd H l (.tup vs)) G := .laid hl
      refine ⟨x2, hr.laid hl, ?_⟩
      rw [VR]
      exact ⟨l, vs, rfl, .inl (.inl upd_same), r.ext hr x2⟩
    · refine .inr ⟨hq, .refl _ _, hr, ?_⟩
      rw [VR]
      exact ⟨a, vs, rfl, hq, r⟩
  · exact t.elim
theorem zur {K : Ml} {H : Hp} {G : DHp} : ∀ {ds : List D} {vs : List V} {us : List Value}, VRs K H G ds vs → Vals vs us → PySem.W.EachIs (fun u d => ∃ v, RelV v u ∧ VR K H G d v) us ds
  | [], _, _, h, r => by rw [h.nil_of] at r; cases r; exact .nil
  | d :: ds, _, _, h, r => by
    obtain ⟨v, vs, rfl, q, t⟩ := h.uncons
    cases r with
    | cons r1 r2 => exact .cons ⟨v, r1, q⟩ (zur t r2)
theorem zmh {K : Ml} {H : Hp} {G : DHp} : ∀ {us : List Value} {ds : List D}, PySem.W.EachIs (fun u d => ∃ v, RelV v u ∧ VR K H G d v) us ds → ∃ vs, Vals vs us ∧ VRs K H G ds vs
  | _, _, .nil => ⟨[], .nil, .nil⟩
  | _, _, .cons ⟨v, r, q⟩ t => by
    obtain ⟨vs, a, b⟩ := zmh t
    exact ⟨v :: vs, .cons r a, .cons q b⟩
theorem znt {pins : List (Addr × Obj)} {σ : L2.St} {H : Hp} {G : DHp} {s : Shared} (I : Inv X pins σ H s) : ∀ {ds : List D} {vs : List V} {us : List Value}, VRs X.ml H G ds vs → Vals vs us → plainDs ds = true → PySem.W.EachIs (fun u d => ∃ as, Reads s.heap u (py d) as) us ds
  | [], _, _, h, r, _ => by rw [h.nil_of] at r; cases r; exact .nil
  | d :: ds, _, _, h, r, p => by
    obtain ⟨v, vs, rfl, q, t⟩ := h.uncons
    rw [plainDs, Bool.and_eq_true] at p
    cases r with
    | cons r1 r2 => exact .cons (Dp.reads I _ _ _ (q.dp p.1) r1) (znt I t r2 p.2)
def srt (ds : List D) : List D := ds.mergeSort (PySem.W.dataLe false py)
/-- a new list; it is tracked -/
def zrt : DRn := d1 fun d G Q => match lsD d G with
  | some ds => (plainDs ds = true ∧ PySem.W.AllAlike (ds.map py) ∧ PySem.W.Sortable (ds.map py) ∧ ∀ d ∈ ds, (py d).depth ≤ 60) ∧ ∀ p, G p = none → Q (.ref p) (up G p (.lst (srt ds)))
  | none => False
theorem zt5 (hu : X.A.units + 64 < cLine) : zms X (.builtin "sorted") zrt := zqc fun pins s σ H G x v d P I rx hr q1 t => by
  split at t
  · rename_i ds e
    obtain ⟨⟨p1, p2, p3, p4⟩, t⟩ := t
    obtain ⟨a, vs, rfl, hq, r⟩ := zty hr q1 e
    cases (show v = Value.ref a from rx)
    obtain ⟨its, rv, pl, hz⟩ := I.list hq
    refine PySem.W.sorted_data (R := fun u d => ∃ v, RelV v u ∧ VR X.ml H G d v) (enc := py) (bs := ds) pl.isList (zur r rv) (znt I r rv p1) p2 p3 (by rw [← r.length]; exact hz) (fun b hb => by have := p4 b hb; omega) fun out ho eo => ?_
    obtain ⟨ws, rw', qs⟩ := zmh eo
    obtain ⟨ep, he'⟩ := PyProof.Rows.sortedAll_at s.heap its out.toArray
    have hp : H (s.heap.objs.size + 1) = none := I.hok.fresh (Nat.le_succ _)
    have x2 : Ext H G (upd H (s.heap.objs.size + 1) (.lst ws)) (up G (s.heap.objs.size + 1) (.lst (srt ds))) := .new hp
    have hlen : ws.length ≤ sizeLine := by rw [rw'.length, ho, ← r.length]; exact hz
    have I' : Inv X pins σ (upd H (s.heap.objs.size + 1) (.lst ws)) { s with heap := PyProof.Rows.sortedAll s.heap its (List.toArray out) } :=
      I.laid (t' := s.toks) (fun _ _ => PyProof.Rows.sortedAll_old) (Nat.le_succ _) ⟨hlen, out, ep, rw', he'⟩
    exact ⟨.ref _, .ref _, _, _, I', rfl, t _ (hr.free hp), x2, hr.new hp ⟨ws, upd_same, qs.ext hr x2⟩, by rw [VR]⟩
  · exact t.elim
end
end DL
namespace DL
open PySem PySem.Spec PyProof.Rows L2
/-- the items of a walk over kv -/
def EntV (es : Array DictEntry) (kv : List (V × V)) : Prop := Paired (fun (p : V × V) (e : DictEntry) => RelV p.1 e.key ∧ RelV p.2 e.val) kv es.toList
theorem EntV.size {es : Array DictEntry} {kv : List (V × V)} (h : EntV es kv) : kv.length = es.size := by
  have := Paired.length h
  rw [Array.length_toList] at this
  exact this
theorem EntV.at {es : Array DictEntry} {kv : List (V × V)} (h : EntV es kv) {i : Nat} {p : V × V} (e : kv[i]? = some p) (hi : i < es.size) : RelV p.1 es[i].key ∧ RelV p.2 es[i].val := by
  obtain ⟨b, hb, r⟩ := paired_get h e
  rw [Array.getElem?_toList, Array.getElem?_eq_getElem hi] at hb
  cases hb
  exact r
/-- the walk's own pairs -/
def zt1 (K : Ml) (H : Hp) (G : DHp) (ps : List (D × D)) (kv : List (V × V)) : Prop := VRs K H G (ps.map (·.1)) (kv.map (·.1)) ∧ VRs K H G (ps.map (·.2)) (kv.map (·.2))
section
variable {X : Cx}
theorem zt1.get {K : Ml} {H : Hp} {G : DHp} {ps : List (D × D)} {kv : List (V × V)} (h : zt1 K H G ps kv) (hl : ps.length = kv.length) {i : Nat} {p : D × D} (e : ps[i]? = some p) : ∃ k v, kv[i]? = some (k, v) ∧ VR K H G p.1 k ∧ VR K H G p.2 v := by
  have hi : i < kv.length := by rw [← hl]; exact (List.getElem?_eq_some_iff.mp e).1
  obtain ⟨k, e1, q1⟩ := h.1.get (i := i) (d := p.1) (by rw [List.getElem?_map, e]; rfl)
  obtain ⟨v, e2, q2⟩ := h.2.get (i := i) (d := p.2) (by rw [List.getElem?_map, e]; rfl)
  rw [List.getElem?_map, List.getElem?_eq_getElem hi] at e1 e2
  cases e1; cases e2
  exact ⟨_, _, List.getElem?_eq_getElem hi, q1, q2⟩
theorem zt1.ext {K : Ml} {H H' : Hp} {G G' : DHp} {ps : List (D × D)} {kv : List (V × V)} (h : zt1 K H G ps kv) (hr : HR K H G) (x : Ext H G H' G') : zt1 K H' G' ps kv := ⟨h.1.ext hr x, h.2.ext hr x⟩
end
end DL
namespace DL
open PySem PySem.Spec PyProof.Rows L2
end DL
namespace DL
open PySem PySem.Spec PyProof.Rows L2
end DL
namespace DL
open PySem PySem.Spec PyProof.Rows L2
def za4 (N : List Str) (ds : List D) : DSt := ds.map some ++ List.replicate (N.length - ds.length) none
theorem SR.st [Bs] {K : Ml} {H : Hp} {G : DHp} {N : List Str} {ds : List D} {vs : List V} (h : VRs K H G ds vs) (x : Ext Bs.H0 Bs.G0 H G) : SR K H G (L2.start N vs) (za4 N ds) := by
  refine ⟨?_, fun i d e => ?_, x⟩
  · unfold L2.start za4
    rw [List.length_append, List.length_append, List.length_map, List.length_map, List.length_replicate, List.length_replicate, h.length]
  · unfold za4 at e
    by_cases hi : i < ds.length
    · rw [List.getElem?_append_left (by rw [List.length_map]; exact hi), List.getElem?_map] at e
      cases ed : ds[i]? with
      | none => rw [ed] at e; cases e
      | some d' =>
        rw [ed] at e
        simp only [Option.map_some, Option.some.injEq] at e
        subst e
        obtain ⟨v, ev, q⟩ := h.get ed
        refine ⟨v, ?_, q⟩
        unfold L2.start
        rw [List.getElem?_append_left (by rw [List.length_map, h.length]; exact hi), List.getElem?_map, ev]
        rfl
    · rw [List.getElem?_append_right (by rw [List.length_map]; omega), List.getElem?_replicate] at e
      split at e
      · cases e
      · cases e
section
variable {P : Program} {w : World} {K : PySem.W.Frag} {mg : Str → Option Value} {base : Heap}
theorem fn_d {x qual : Str} {st : Stmt} {f : Addr} {fd : FuncData} {N ps : List Str} {k : Nat} {sp : DRn} (F : Fun K x qual st f fd) (S : FnScope N ps (defScope st)) (len : ∀ ds G Q, sp ds G Q → ds.length = ps.length) {T : DTS}
    (hp : ∀ [Bs] (cdv : Value) (A : Around) (outer : List Env) (s : Shared) (H : Hp) (E : XK), Room k (A.deeper (envOfC qual (defScope st) s.heap.objs.size f cdv)) → PSsD (cxOf CX0 P w K mg base N qual (defScope st) f cdv A outer s H E).nox (defBody st) T)
    (hs : ∀ ds G Q, sp ds G Q → T { nx := fun _ G' => Q .non G', rt := Q } (za4 N ds) G) : FnD P w K mg base (k + 1) f fd ps sp := by
  refine F.ok S (fun vs H Q E h => ?_) (fun cdv A outer s H vs Q E hr h => ?_)
  · obtain ⟨ds, G, Q', q, _, t, _⟩ := h
    rw [q.length]
    exact len _ _ _ t
  · obtain ⟨ds, G, Q', q, hr', t, k'⟩ := h
    letI : Bs := ⟨H, G⟩
    refine ⟨z2h ⟨K, w⟩ T, hp cdv A outer s H E hr, za4 N ds, G, _, .st q (.refl _ _), hr', hs ds G Q' t, ?_⟩
    exact ⟨fun η G' σ H' p x _ r => k' _ _ _ _ p x r (by rw [VR]), fun d G' v H' p x r q => k' _ _ _ _ p x r q, fun _ _ _ _ p => p.elim, fun _ _ _ _ p => p.elim⟩
/-- a promise: the arguments, then what the body leads to -/
def zzg : DRn := d1 fun d G Q => ∃ ns : List Int, d = .nd .scr (ns.map .int) ∧ ns.length ≤ 63 ∧ (∀ a, G a = none) ∧ ∀ G', Q (.bl true) G'
end
theorem Room.u65 {k : Nat} {A : Around} (r : Room k A) : A.units + 65 < cLine := by have := r.un; omega
end DL
namespace DL
open PySem PySem.Spec PyProof.Rows L2
end DL
namespace DL
open PySem PySem.Spec PyProof.Rows L2
abbrev dSub : DR2 := i2 (fun _ _ => True) fun i j => .int (i - j)
abbrev dMul : DR2 := i2 CMul fun i j => .int (i * j)
abbrev z1v : DR2 := i2 CDiv fun i j => .int (i / j)
abbrev dMod : DR2 := i2 (fun _ j => 0 < j) fun i j => .int (i % j)
abbrev dPow : DR2 := i2 CPow fun i j => .int (i ^ j.toNat)
def eR (xs : List Int) : D := .nd .tup (xs.map .int)
def e2 (p : Int × Int) : D := .nd .tup [.int p.1, .int p.2]
def e3 (p : Int × Int × Int) : D := .nd .tup [.int p.1, .int p.2.1, .int p.2.2]
def eL {α : Type} (f : α → D) (xs : List α) : D := .nd .lst (xs.map f)
def eT {α : Type} (f : α → D) (xs : List α) : D := .nd .tup (xs.map f)
mutual
def zba : D → Bool
  | .non => true
  | .int _ => true
  | .nd .tup ds => cleans ds
  | .nd .lst ds => cleans ds
  | _ => false
def cleans : List D → Bool
  | [] => true
  | d :: ds => zba d && cleans ds
end
mutual
theorem zgc : ∀ {d : D}, zba d = true → zb8 d = true
  | .non, _ => rfl
  | .int _, _ => rfl
  | .nd .tup ds, h => by rw [zb8]; rw [zba] at h; exact cleans_plain h
  | .nd .lst ds, h => by rw [zb8]; rw [zba] at h; exact cleans_plain h
  | .bl _, h => by simp [zba] at h
  | .str _, h => by simp [zba] at h
  | .ty _, h => by simp [zba] at h
  | .ref _, h => by simp [zba] at h
  | .nd .scr _, h => by simp [zba] at h
  | .nd (.ins _ _) _, h => by simp [zba] at h
  | .nd (.dK _) _, h => by simp [zba] at h
  | .nd (.dN _) _, h => by simp [zba] at h
theorem cleans_plain : ∀ {ds : List D}, cleans ds = true → plainDs ds = true
  | [], _ => rfl
  | d :: ds, h => by
    rw [cleans, Bool.and_eq_true] at h
    rw [plainDs, zgc h.1, cleans_plain h.2]; rfl
end
mutual
theorem zug : ∀ {d : D}, zba d = true → PyData.canLay0 (py d) = true
  | .non, _ => by rw [py, PyData.canLay0]
  | .int _, _ => by rw [py, PyData.canLay0]
  | .nd .tup ds, h => by rw [py, PyData.canLay0]; rw [zba] at h; exact cleans_lay h
  | .nd .lst ds, h => by rw [py, PyData.canLay0]; rw [zba] at h; exact cleans_lay h
  | .bl _, h => by simp [zba] at h
  | .str _, h => by simp [zba] at h
  | .ty _, h => by simp [zba] at h
  | .ref _, h => by simp [zba] at h
  | .nd .scr _, h => by simp [zba] at h
  | .nd (.ins _ _) _, h => by simp [zba] at h
  | .nd (.dK _) _, h => by simp [zba] at h
  | .nd (.dN _) _, h => by simp [zba] at h
theorem cleans_lay : ∀ {ds : List D}, cleans ds = true → PyData.canLayAll0 (pys ds) = true
  | [], _ => by rw [pys, PyData.canLayAll0]
  | d :: ds, h => by
    rw [cleans, Bool.and_eq_true] at h
    rw [pys, PyData.canLayAll0, zug h.1, cleans_lay h.2]; rfl
end
mutual
theorem zrm : ∀ {d e : D}, zba d = true → zba e = true → (PyData.eqv (py d) (py e) = true ↔ d = e)
  | .non, .non, _, _ => by simp [py, PyData.eqv]
  | .non, .int _, _, _ => by simp [py, PyData.eqv]
  | .non, .nd .tup _, _, _ => by simp [py, PyData.eqv]
  | .non, .nd .lst _, _, _ => by simp [py, PyData.eqv]
  | .int _, .non, _, _ => by simp [py, PyData.eqv]
  | .int i, .int j, _, _ => by simp [py, PyData.eqv]
  | .int _, .nd .tup _, _, _ => by simp [py, PyData.eqv]
  | .int _, .nd .lst _, _, _ => by simp [py, PyData.eqv]
  | .nd .tup _, .non, _, _ => by simp [py, PyData.eqv]
  | .nd .tup _, .int _, _, _ => by simp [py, PyData.eqv]
  | .nd .tup ds, .nd .tup es, h1, h2 => by
    rw [zba] at h1 h2
    rw [py, py, PyData.eqv, cleans_eq h1 h2]
    simp
  | .nd .tup _, .nd .lst _, _, _ => by simp [py, PyData.eqv]
  | .nd .lst _, .non, _, _ => by simp [py, PyData.eqv]
  | .nd .lst _, .int _, _, _ => by simp [py, PyData.eqv]
  | .nd .lst _, .nd .tup _, _, _ => by simp [py, PyData.eqv]
  | .nd .lst ds, .nd .lst es, h1, h2 => by
    rw [zba] at h1 h2
    rw [py, py, PyData.eqv, cleans_eq h1 h2]
    simp
  | .bl _, _, h, _ => by simp [zba] at h
  | .str _, _, h, _ => by simp [zba] at h
  | .ty _, _, h, _ => by simp [zba] at h
  | .ref _, _, h, _ => by simp [zba] at h
  | .nd .scr _, _, h, _ => by simp [zba] at h
  | .nd (.ins _ _) _, _, h, _ => by simp [zba] at h
  | .nd (.dK _) _, _, h, _ => by simp [zba] at h
  | .nd (.dN _) _, _, h, _ => by simp [zba] at h
  | _, .bl _, _, h => by simp [zba] at h
  | _, .str _, _, h => by simp [zba] at h
  | _, .ty _, _, h => by simp [zba] at h
  | _, .ref _, _, h => by simp [zba] at h
  | _, .nd .scr _, _, h => by simp [zba] at h
  | _, .nd (.ins _ _) _, _, h => by simp [zba] at h
  | _, .nd (.dK _) _, _, h => by simp [zba] at h
  | _, .nd (.dN _) _, _, h => by simp [zba] at h
theorem cleans_eq : ∀ {ds es : List D}, cleans ds = true → cleans es = true → (PyData.eqvAll (pys ds) (pys es) = true ↔ ds = es)
  | [], [], _, _ => by simp [pys, PyData.eqvAll]
  | [], _ :: _, _, _ => by simp [pys, PyData.eqvAll]
  | _ :: _, [], _, _ => by simp [pys, PyData.eqvAll]
  | d :: ds, e :: es, h1, h2 => by
    rw [cleans, Bool.and_eq_true] at h1 h2
    rw [pys, pys, PyData.eqvAll, Bool.and_eq_true, zrm h1.1 h2.1, cleans_eq h1.2 h2.2]
    simp
end
theorem zqz : ∀ ds : List D, cleans ds = ds.all zba
  | [] => rfl
  | d :: ds => by rw [cleans, zqz ds]; rfl
theorem zi7 {α : Type} {f : α → D} (h : ∀ a, zba (f a) = true) (xs : List α) : cleans (xs.map f) = true := by
  rw [zqz, List.all_map, List.all_eq_true]
  intro x _; exact h x
theorem zme {B : Nat} : ∀ {ds : List D}, (∀ d ∈ ds, (py d).depth ≤ B) → PyData.depthAll (pys ds) ≤ B
  | [], _ => by rw [pys, PyData.depthAll]; exact Nat.zero_le _
  | d :: ds, h => by
    rw [pys, PyData.depthAll]
    have h1 := h d (by simp)
    have h2 := zme (B := B) (ds := ds) fun e he => h e (by simp [he])
    omega
theorem zmg {B : Nat} {ds : List D} (h : ∀ d ∈ ds, (py d).depth ≤ B) : (py (.nd .tup ds)).depth ≤ B + 1 := by
  rw [py, PyData.depth]; have := zme h; omega
theorem zem (i : Int) : (py (.int i)).depth = 0 := by rw [py, PyData.depth]
theorem zm1 {d : D} (h : zba d = true) (h2 : (py d).depth ≤ 64) : SeqAt.shaped (py d) = true := by
  unfold SeqAt.shaped
  rw [zug h, decide_eq_true h2]; rfl
theorem zum (i : Int) : zba (.int i) = true := rfl
theorem zrx (p : Int × Int) : zba (e2 p) = true := rfl
theorem zjp (p : Int × Int × Int) : zba (e3 p) = true := rfl
theorem zg2 {α : Type} {f : α → D} (h : ∀ a, zba (f a) = true) (xs : List α) : zba (eT f xs) = true := by
  unfold eT; rw [zba]; exact zi7 h xs
theorem zmj (p : Int × Int) : (py (e2 p)).depth ≤ 1 := zmg (B := 0) fun d hd => by
  simp at hd; rcases hd with rfl | rfl <;> exact Nat.le_of_eq (zem _)
theorem zjj (p : Int × Int × Int) : (py (e3 p)).depth ≤ 1 := zmg (B := 0) fun d hd => by
  simp at hd; rcases hd with rfl | rfl | rfl <;> exact Nat.le_of_eq (zem _)
theorem zgg {α : Type} {f : α → D} {B : Nat} (h : ∀ a, (py (f a)).depth ≤ B) (xs : List α) : (py (eT f xs)).depth ≤ B + 1 := zmg fun d hd => by
  obtain ⟨a, _, rfl⟩ := List.mem_map.mp hd; exact h a
theorem z3h {a b : Int × Int × Int} : e3 a = e3 b ↔ a = b := by
  constructor
  · intro h; obtain ⟨a1, a2, a3⟩ := a; obtain ⟨b1, b2, b3⟩ := b
    simp [e3] at h; simp [h]
  · intro h; rw [h]
theorem zyt {α : Type} {f : α → D} (h : ∀ {a b}, f a = f b ↔ a = b) : ∀ {xs ys : List α}, xs.map f = ys.map f ↔ xs = ys
  | [], [] => by simp
  | [], _ :: _ => by simp
  | _ :: _, [] => by simp
  | x :: xs, y :: ys => by simp [h, zyt h (xs := xs) (ys := ys)]
theorem z31 {α : Type} {f : α → D} (h : ∀ {a b}, f a = f b ↔ a = b) {xs ys : List α} : eT f xs = eT f ys ↔ xs = ys := by
  unfold eT
  constructor
  · intro e; exact (zyt h).mp (D.nd.inj e).2
  · intro e; rw [e]
theorem zrf {d e : D} {G : DHp} {Q : DVK} (h1 : zba (der d G) = true) (h2 : zba (der e G) = true) (d1 : (py (der d G)).depth ≤ 64) (d2 : (py (der e G)).depth ≤ 64) (b : Bool) (hb : b = true ↔ der d G = der e G) (h : Q (.bl b) G) : dEq d e G Q := by
  refine ⟨⟨zgc h1, zgc h2, zm1 h1 d1, zm1 h2 d2⟩, ?_⟩
  have : PyData.eqv (py (der d G)) (py (der e G)) = b := by
    rw [Bool.eq_iff_iff, zrm h1 h2]; exact hb.symm
  rw [this]; exact h
theorem zwm {d e : D} {G : DHp} {Q : DVK} (h1 : zba (der d G) = true) (h2 : zba (der e G) = true) (d1 : (py (der d G)).depth ≤ 64) (d2 : (py (der e G)).depth ≤ 64) (b : Bool) (hb : b = true ↔ der d G ≠ der e G) (h : Q (.bl b) G) : dNe d e G Q := by
  refine ⟨⟨zgc h1, zgc h2, zm1 h1 d1, zm1 h2 d2⟩, ?_⟩
  have : (!PyData.eqv (py (der d G)) (py (der e G))) = b := by
    rw [Bool.eq_iff_iff, Bool.not_eq_true', hb, ← Bool.not_eq_true, zrm h1 h2]
  rw [this]; exact h
/-- order of ints -/
theorem z1q {g : PyData → PyData → Bool} {i j : Int} {G : DHp} {Q : DVK} (h : Q (.bl (g (.int i) (.int j))) G) : dOrd g (.int i) (.int j) G Q :=
  ⟨⟨rfl, rfl, by rw [py, py]; simp [PySem.W.alike], by rw [py]; exact (nomatch ·), by rw [zem]; exact Nat.zero_le _⟩, by rw [py, py]; exact h⟩
theorem z0g {i j : Int} : PySem.W.dataLt (.int i) (.int j) = decide (i < j) := PySem.W.dataLt_int i j
theorem zo6 {g : PyData → PyData → Bool} {i j : Int} {G : DHp} {Q : DVK} : dOrd g (.int i) (.int j) G Q = Q (.bl (g (.int i) (.int j))) G := propext ⟨fun h => by
  have h := h.2
  rwa [py, py] at h, z1q⟩
theorem zrd {i j : Int} : (!decide (j < i)) = decide (i ≤ j) := by rw [← decide_not]; exact decide_eq_decide.mpr (by omega)
theorem zmr {i j : Int} {G : DHp} {Q : DVK} : dLt (.int i) (.int j) G Q = Q (.bl (decide (i < j))) G := by
  show dOrd _ _ _ _ _ = _
  rw [zo6, z0g]
theorem zmw {i j : Int} {G : DHp} {Q : DVK} : dLe (.int i) (.int j) G Q = Q (.bl (decide (i ≤ j))) G := by
  show dOrd _ _ _ _ _ = _
  rw [zo6]
  show Q (.bl (!PySem.W.dataLt (.int j) (.int i))) G = _
  rw [z0g, zrd]
theorem zm6 {i j : Int} {G : DHp} {Q : DVK} : dGt (.int i) (.int j) G Q = Q (.bl (decide (j < i))) G := by
  show dOrd _ _ _ _ _ = _
  rw [zo6]
  show Q (.bl (PySem.W.dataLt (.int j) (.int i))) G = _
  rw [z0g]
theorem zmo {i j : Int} {G : DHp} {Q : DVK} : dGe (.int i) (.int j) G Q = Q (.bl (decide (j ≤ i))) G := by
  show dOrd _ _ _ _ _ = _
  rw [zo6]
  show Q (.bl (!PySem.W.dataLt (.int i) (.int j))) G = _
  rw [z0g, zrd]
theorem zjk {i j : Int} {G : DHp} {Q : DVK} : dEq (.int i) (.int j) G Q = Q (.bl (decide (i = j))) G := propext ⟨fun h => by
  have h := h.2
  rwa [show PyData.eqv (py (der (.int i) G)) (py (der (.int j) G)) = decide (i = j) by
    show PyData.eqv (py (.int i)) (py (.int j)) = _
    rw [py, py, PyData.eqv]; rfl] at h, fun h => zrf rfl rfl (by show (py (.int i)).depth ≤ 64; rw [zem]; decide) (by show (py (.int j)).depth ≤ 64; rw [zem]; decide) _ (by
    show _ ↔ D.int i = D.int j
    simp) h⟩
theorem zjn {i j : Int} {G : DHp} {Q : DVK} : dNe (.int i) (.int j) G Q = Q (.bl (!decide (i = j))) G := propext ⟨fun h => by
  have h := h.2
  rwa [show PyData.eqv (py (der (.int i) G)) (py (der (.int j) G)) = decide (i = j) by
    show PyData.eqv (py (.int i)) (py (.int j)) = _
    rw [py, py, PyData.eqv]; rfl] at h, fun h => zwm rfl rfl (by show (py (.int i)).depth ≤ 64; rw [zem]; decide) (by show (py (.int j)).depth ≤ 64; rw [zem]; decide) _ (by
    show _ ↔ D.int i ≠ D.int j
    simp) h⟩
theorem zg5 {i j : Int} {G : DHp} {Q : DVK} : dAdd (.int i) (.int j) G Q = Q (.int (i + j)) G := rfl
theorem zfe {i j : Int} {G : DHp} {Q : DVK} : zzs (.int i) (.int j) G Q = Q (.int (i + j)) G := rfl
theorem zx9 {i j : Int} (h : -1000000 ≤ i ∧ i ≤ 1000000) : CMul i j := .inl ⟨by omega, by omega⟩
theorem zhp {α : Type} {f : α → D} {xs : List α} {i : Nat} {d : D} (h : (xs.map f)[i]? = some d) : ∃ x, xs[i]? = some x ∧ d = f x := by
  rw [List.getElem?_map] at h
  cases e : xs[i]? with
  | none => rw [e] at h; cases h
  | some x => rw [e] at h; exact ⟨x, rfl, (Option.some.inj h).symm⟩
end DL
namespace DL
open PySem PySem.Spec PyProof.Rows L2
theorem zes {n : Nat} (h : n ≤ 1000000) : n < sizeLine := by rw [sizeLine_eq]; omega
theorem znm {xs : List D} {p : Addr} {y : D} {G : DHp} {Q : DVK} (e : G p = some (.lst xs)) (hl : xs.length < sizeLine) (q : Q .non (up G p (.lst (xs ++ [y])))) : tyD "list" (.ref p) G ∧ zro [.ref p, y] G Q := by
  refine ⟨by simp only [tyD, e], ?_⟩
  show onL (.ref p) G fun a ds => ds.length < sizeLine ∧ Q .non (up G a (.lst (ds ++ [y])))
  exact z3w e ⟨hl, q⟩
theorem zhk (lo hi : Int) : (zfw lo hi).length = (hi - lo).toNat := by
  unfold zfw; rw [List.length_map, List.length_range]
theorem znz {ds : List D} {i : Int} {d : D} {Q : D → Prop} (h0 : 0 ≤ i) (e : ds[i.toNat]? = some d) (q : Q d) : atD ds (.int i) Q := by
  have h : atI ds i = some d := by
    obtain ⟨k, rfl⟩ := Int.eq_ofNat_of_zero_le h0
    exact atI_nat (by simpa using e)
  show (match atI ds i with | some d => Q d | none => False)
  rw [h]; exact q
section
variable {α β κ : Type} [DecidableEq α] [DecidableEq κ]
def aget (kvs : List (α × β)) (a : α) : Option β := (kvs.find? fun p => decide (p.1 = a)).map (·.2)
def aput (kvs : List (α × β)) (a : α) (b : β) : List (α × β) := if kvs.any fun p => decide (p.1 = a) then kvs.map fun p => if p.1 = a then (p.1, b) else p else kvs ++ [(a, b)]
def enc (k : α → κ) (f : β → D) (kvs : List (α × β)) : List (κ × D) := kvs.map fun p => (k p.1, f p.2)
theorem zyw (kvs : List (α × β)) (a c : α) (b : β) : aget (aput kvs a b) c = if c = a then some b else aget kvs c := by
  have h1 : ∀ kvs : List (α × β), aget (kvs.map fun p => if p.1 = a then (p.1, b) else p) c = if c = a then (aget kvs c).map fun _ => b else aget kvs c := by
    intro kvs
    induction kvs with
    | nil => unfold aget; split <;> rfl
    | cons p kvs ih =>
      unfold aget at ih ⊢
      by_cases e : p.1 = a
      · by_cases e2 : c = a
        · subst e2; simp [e]
        · have : ¬ a = c := fun h => e2 h.symm
          simp [e, this, e2] at ih ⊢
          exact ih
      · by_cases e3 : p.1 = c
        · have : ¬ c = a := fun h => e (e3.trans h)
          simp [e, e3, this]
        · simp [e, e3] at ih ⊢
          exact ih
  have h2 : ∀ kvs : List (α × β), (kvs.any fun p => decide (p.1 = a)) = (aget kvs a).isSome := by
    intro kvs
    induction kvs with
    | nil => rfl
    | cons p kvs ih =>
      unfold aget at ih ⊢
      by_cases e : p.1 = a
      · simp [e]
      · simp only [List.any_cons, e, decide_false, Bool.false_or, List.find?_cons] ; exact ih
  unfold aput
  rw [h2]
  split
  · rename_i h
    rw [h1]
    by_cases e : c = a
    · subst e
      rw [if_pos rfl, if_pos rfl]
      obtain ⟨x, hx⟩ := Option.isSome_iff_exists.mp h
      rw [hx]; rfl
    · rw [if_neg e, if_neg e]
  · rename_i h
    have hn : aget kvs a = none := by simpa using h
    unfold aget at hn ⊢
    rw [List.find?_append]
    by_cases e : c = a
    · subst e
      have : kvs.find? (fun p => decide (p.1 = c)) = none := by simpa using hn
      simp [this]
    · have : ¬ a = c := fun h => e h.symm
      simp [e, this]
theorem zy1 (kvs : List (α × β)) (a : α) (b : β) : ((aput kvs a b).map (·.1)) = if (aget kvs a).isSome then kvs.map (·.1) else kvs.map (·.1) ++ [a] := by
  have h2 : (kvs.any fun p => decide (p.1 = a)) = (aget kvs a).isSome := by
    induction kvs with
    | nil => rfl
    | cons p kvs ih =>
      unfold aget at ih ⊢
      by_cases e : p.1 = a
      · simp [e]
      · simp only [List.any_cons, e, decide_false, Bool.false_or, List.find?_cons] ; exact ih
  unfold aput
  rw [h2]
  split
  · rw [List.map_map]
    refine List.map_congr_left fun p _ => ?_
    simp only [Function.comp]
    split <;> rfl
  · simp
theorem zwu (kvs : List (α × β)) (a : α) : (aget kvs a).isSome ↔ a ∈ kvs.map (·.1) := by
  induction kvs with
  | nil => simp [aget]
  | cons p kvs ih =>
    unfold aget at ih ⊢
    by_cases e : p.1 = a
    · simp [e]
    · have : ¬ a = p.1 := fun h => e h.symm
      simp only [List.find?_cons, e, decide_false, List.map_cons, List.mem_cons, this, false_or]
      exact ih
theorem z0a (kvs : List (α × β)) (a : α) (b : β) : (aput kvs a b).length ≤ kvs.length + 1 := by
  unfold aput; split <;> simp
theorem zxj (kvs : List (α × β)) (a : α) (b : β) (h : (kvs.map (·.1)).Nodup) : ((aput kvs a b).map (·.1)).Nodup := by
  rw [zy1]
  split
  · exact h
  · rename_i hn
    rw [zwu] at hn
    rw [List.nodup_append]
    exact ⟨h, by simp, fun x hx y hy => by simp at hy; subst hy; exact fun e => hn (e ▸ hx)⟩
/-- kvs counts L -/
structure Cnt (kvs : List (α × Int)) (L : List α) : Prop where
  nd : (kvs.map (·.1)).Nodup
  at_ : ∀ a, aget kvs a = if L.count a = 0 then none else some (L.count a : Int)
  le : kvs.length ≤ L.length
theorem Cnt.nil : Cnt ([] : List (α × Int)) [] := ⟨List.nodup_nil, fun a => by simp [aget], Nat.le_refl _⟩
theorem Cnt.step {kvs : List (α × Int)} {L : List α} (h : Cnt kvs L) (a : α) : Cnt (aput kvs a ((aget kvs a).getD 0 + 1)) (L ++ [a]) := by
  refine ⟨zxj _ _ _ h.nd, fun c => ?_, ?_⟩
  · rw [zyw, h.at_ a, h.at_ c, List.count_append]
    by_cases e : c = a
    · subst e
      rw [if_pos rfl]
      by_cases z : L.count c = 0
      · simp [z]
      · simp [z]
    · have e' : ¬ a = c := fun h => e h.symm
      rw [if_neg e]
      simp [e', List.count_singleton]
  · have := z0a kvs a ((aget kvs a).getD 0 + 1)
    have := h.le
    rw [List.length_append, List.length_singleton]; omega
theorem Cnt.mem {kvs : List (α × Int)} {L : List α} (h : Cnt kvs L) (a : α) : a ∈ kvs.map (·.1) ↔ a ∈ L := by
  rw [← zwu, h.at_ a]
  by_cases z : L.count a = 0
  · simp [z, List.count_eq_zero.mp z]
  · simp only [z, if_false, Option.isSome_some, true_iff]
    exact List.count_pos_iff.mp (Nat.pos_of_ne_zero z)
end
def k2 (p : Int × Int) : NestedKey := .tup [.num p.1, .num p.2]
def k3 (p : Int × Int × Int) : NestedKey := .tup [.num p.1, .num p.2.1, .num p.2.2]
theorem zy4 {a b : Int × Int} : k2 a = k2 b ↔ a = b := by
  obtain ⟨a1, a2⟩ := a; obtain ⟨b1, b2⟩ := b
  simp [k2]
theorem zzf {a b : Int × Int × Int} : k3 a = k3 b ↔ a = b := by
  obtain ⟨a1, a2, a3⟩ := a; obtain ⟨b1, b2, b3⟩ := b
  simp [k3]
def drw (ns : List Int) (c : Int) : DO := .lst [.nd .scr (ns.map .int), .int c]
def zdm : DRn := d2 fun s i G Q => ∃ (ns : List Int) (c : Int), s = .nd .scr (ns.map .int) ∧ i = .int c ∧ ns.length ≤ 63 ∧ ∀ r : Int, 0 ≤ r → Q (.int r) G
def zp : DRn := d2 fun dr m G Q => ∃ (a : Addr) (ns : List Int) (c n : Int), dr = .ref a ∧ m = .int n ∧ 0 < n ∧ ns.length ≤ 63 ∧ G a = some (drw ns c) ∧ ∀ r : Int, 0 ≤ r → r < n → Q (.int r) (up G a (drw ns (c + 1)))
theorem zpl : ∀ ds G Q, zdm ds G Q → ds.length = 2 := fun ds G Q h => by
  match ds, h with
  | [_, _], _ => rfl
theorem zsh : ∀ ds G Q, zp ds G Q → ds.length = 2 := fun ds G Q h => by
  match ds, h with
  | [_, _], _ => rfl
abbrev zg8 : List Str := ["script", "index", "cell", "far", "rest", "lap", "blend"]
def zzd : DTS :=
    (dSeq (dFor (zk6 (zi (dOp dMod (dCB dInt (zi (zk 3) dNil)) (dC (.int 60))) dNil)) (zab 5)
    (dAsg (dOp z1v (zk 4) (dC (.int 1009))) (zab 4)))
    (dSeq (dIfS (zay (dOp dGt (zk 4) (dC (.int 0))))
    (dRet (dOp dMod (dCB dInt (zi (zk 4) dNil)) (dC (.int 1009))))
    zdd)
    (dSeq (dAsg (dOp dMod (dOp dAdd (dOp dMul (dCB dInt (zi (dOp dAdd (zk 2) (dOp dMul (dC (.int 977)) (zk 1))) dNil)) (dC (.int 48271))) (dOp dMul (dC (.int 31)) (dCB dLen (zi (zk 0) dNil)))) (dC (.int 2147483647))) (zab 6))
    (dSeq (dAsg (dOp dMod (dOp dAdd (dOp dMul (zk 6) (zk 6)) (dOp dMul (dC (.int 40503)) (zk 1))) (dC (.int 2147483629))) (zab 6))
    (dRet (dCB dInt (zi (dOp dMod (dOp dAdd (dOp dMul (zk 6) (dC (.int 69621))) (dOp z1v (zk 6) (dC (.int 977)))) (dC (.int 2147483587))) dNil)))))))
def zjo : DTS :=
    (dSeq (dAsg (dIf (zay (dOp dNe (zk 0) (zlh dNil))) (dTup (zi (dOp dIx (zk 0) (dOp dMod (zk 1) (dCB dLen (zi (zk 0) dNil)))) (zi (dOp z1v (zk 1) (dCB dLen (zi (zk 0) dNil))) dNil))) (dTup (zi (dC (.int 12345)) (zi (dC (.int 0)) dNil)))) (zkw (zc1 (zab 2) (zc1 (zab 3) zkl)) 2))
    (dSeq (dAsg (dIf (zay (dOp dLt (zk 3) (dC (.int 60)))) (dOp dSub (zk 2) (dOp dPow (dC (.int 10)) (dC (.int 18)))) (dC (.int 0))) (zab 4))
    zzd))
abbrev zju : List Str := ["draw", "many"]
def zlp : DTS :=
    (dSeq (zpm (zk 0) (dC (.int 1)) (dC (.int 1)) zyc zzs dSet)
    (dRet (dOp dMod (dCB dInt (zi (dCB zdm (zi (dOp dIx (zk 0) (dC (.int 0))) (zi (dCB dInt (zi (dOp dIx (zk 0) (dC (.int 1))) dNil)) dNil))) dNil)) (zk 1))))
theorem zxg (ns : List Int) : plainDs (ns.map .int) = true := by
  induction ns with
  | nil => rfl
  | cons n ns ih => exact ih
theorem zw8 {ns : List Int} {G : DHp} {Q : DVK} (h : Q (.bl (!ns.isEmpty)) G) : dNe (.nd .scr (ns.map .int)) (.nd .lst []) G Q := by
  have hc : cleans (ns.map D.int) = true := zi7 (fun _ => rfl) ns
  have e1 : py (.nd .scr (ns.map .int)) = .list (pys (ns.map .int)) := by rw [py]
  have e2 : py (.nd .lst []) = .list [] := by rw [py, pys]
  refine ⟨⟨by show zb8 (.nd .scr _) = true; rw [zb8]; exact zxg ns, rfl, ?_, ?_⟩, ?_⟩
  · show SeqAt.shaped (py (.nd .scr (ns.map .int))) = true
    rw [e1]
    unfold SeqAt.shaped
    have := zme (B := 0) (ds := ns.map D.int) fun d hd => by
      obtain ⟨i, _, rfl⟩ := List.mem_map.mp hd; exact Nat.le_of_eq (zem i)
    rw [PyData.canLay0, cleans_lay hc, PyData.depth, decide_eq_true (by omega)]; rfl
  · show SeqAt.shaped (py (.nd .lst [])) = true
    rw [e2]; decide
  · show Q (.bl (!PyData.eqv (py (.nd .scr (ns.map .int))) (py (.nd .lst [])))) G
    rw [e1, e2, PyData.eqv]
    cases ns with
    | nil => simpa [pys, PyData.eqvAll] using h
    | cons n ns => simpa [pys, PyData.eqvAll] using h
theorem zu7 {d : D} {ds : List D} {G : DHp} {Q : DVK} (h : sqD d G = some ds) : dLen [d] G Q = Q (.int ds.length) G := by
  unfold dLen d1
  simp only [h]
theorem zlq {ns : List Int} {G : DHp} {Q : DVK} : dLen [.nd .scr (ns.map .int)] G Q = Q (.int ns.length) G := by
  rw [zu7 (ds := ns.map .int) rfl, List.length_map]
theorem zmm {i : Int} {G : DHp} {Q : DVK} : dInt [.int i] G Q = Q (.int i) G := rfl
theorem zo3 {ns : List Int} {c cell far rest : Int} {G : DHp} {Q : DVK} (q : ∀ r : Int, 0 ≤ r → Q (.int r) G) :
    zzd { nx := fun _ G' => Q .non G', rt := Q } [some (.nd .scr (ns.map .int)), some (.int c), some (.int cell), some (.int far), some (.int rest), none, none] G := by
  unfold zzd
  refine ⟨(by show (0 : Int) < 60; decide), ⟨by omega, by omega⟩, fun i η G' => G' = G ∧ ∃ z : Int, η = [some (.nd .scr (ns.map .int)), some (.int c), some (.int cell), some (.int far), some (.int z), none, none], ⟨rfl, rest, rfl⟩, fun _ _ _ _ => trivial, ?_, ?_⟩
  · rintro i d η G' hd ⟨rfl, z, rfl⟩
    obtain ⟨x, hx, rfl⟩ := zhp hd
    simp only [dSeq, dIfS, zay, dOp, zk, dC, dRet, zlh, zi, dNil, dTup, zdd, dAsg, zne, zab, zov, dM, dM0, dIf, dAnd, dOr, dNot, zhq, dOrV, zml, zjx, dFz, zp7, zse, zm4, zr8, dCB, zkw, zc1, zkl, zri, dNeg, dAug, zpm, dFrz, dPar, zhc, zqe, zkr, dYes, zks, i2, d1, d2, d3, za4, List.map_cons, List.map_nil, List.length_cons, List.length_nil, List.cons_append, List.nil_append, List.append_nil, List.getElem?_cons_zero, List.getElem?_cons_succ, List.getElem?_nil, List.replicate, List.set_cons_succ, List.set_cons_zero, Nat.reduceAdd, Nat.reduceSub, Nat.reduceLeDiff, zjk, zjn, zmr, zmw, zm6, zmo, zg5, zfe, true_and, and_true, Bool.not_eq_true, Bool.not_true, Bool.not_false, if_true, if_false, Bool.false_eq_true, ite_true, ite_false, reduceIte, reduceCtorEq, decide_eq_true_eq, decide_eq_false_iff_not]
    exact ⟨⟨by decide, by decide⟩, _, (by repeat (first | exact Le.nil | apply Le.keep | apply Le.drop)), rfl, _, rfl⟩
  · rintro η G' ⟨rfl, z, rfl⟩
    simp only [zlq, zmm, dSeq, dIfS, zay, dOp, zk, dC, dRet, zlh, zi, dNil, dTup, zdd, dAsg, zne, zab, zov, dM, dM0, dIf, dAnd, dOr, dNot, zhq, dOrV, zml, zjx, dFz, zp7, zse, zm4, zr8, dCB, zkw, zc1, zkl, zri, dNeg, dAug, zpm, dFrz, dPar, zhc, zqe, zkr, dYes, zks, i2, d1, d2, d3, za4, List.map_cons, List.map_nil, List.length_cons, List.length_nil, List.cons_append, List.nil_append, List.append_nil, List.getElem?_cons_zero, List.getElem?_cons_succ, List.getElem?_nil, List.replicate, List.set_cons_succ, List.set_cons_zero, Nat.reduceAdd, Nat.reduceSub, Nat.reduceLeDiff, zjk, zjn, zmr, zmw, zm6, zmo, zg5, zfe, true_and, and_true, Bool.not_eq_true, Bool.not_true, Bool.not_false, if_true, if_false, Bool.false_eq_true, ite_true, ite_false, reduceIte, reduceCtorEq, decide_eq_true_eq, decide_eq_false_iff_not]
    split
    · exact ⟨by decide, q _ (Int.emod_nonneg _ (by decide))⟩
    · refine ⟨.inl ⟨by decide, by decide⟩, .inr ⟨by decide, by decide⟩, .inl ⟨by decide, by decide⟩, by decide, ?_⟩
      have hb := Int.emod_nonneg ((cell + 977 * c) * 48271 + 31 * (ns.length : Int)) (show (2147483647 : Int) ≠ 0 by decide)
      have hb2 := Int.emod_lt_of_pos ((cell + 977 * c) * 48271 + 31 * (ns.length : Int)) (show (0 : Int) < 2147483647 by decide)
      generalize ((cell + 977 * c) * 48271 + 31 * (ns.length : Int)) % 2147483647 = b at hb hb2 ⊢
      refine ⟨.inl ⟨by omega, by omega⟩, .inl ⟨by decide, by decide⟩, by decide, ?_⟩
      refine ⟨.inr ⟨by decide, by decide⟩, ⟨by decide, by decide⟩, by decide, q _ (Int.emod_nonneg _ (by decide))⟩
theorem zw5 {ns : List Int} {i : Int} {G : DHp} {Q : DVK} (h0 : 0 ≤ i) (h1 : i < ns.length) (h : ∀ z : Int, Q (.int z) G) : dIx (.nd .scr (ns.map .int)) (.int i) G Q := by
  show atD (ns.map .int) (.int i) fun d => Q d G
  have hi : i.toNat < (ns.map D.int).length := by rw [List.length_map]; omega
  refine znz h0 (d := (ns.map D.int)[i.toNat]) (List.getElem?_eq_getElem hi) ?_
  rw [List.getElem_map]
  exact h _
theorem zp3 : ∀ ds G Q, zdm ds G Q → zjo { nx := fun _ G' => Q .non G', rt := Q } (za4 zg8 ds) G := fun ds G Q h => by
  match ds, h with
  | [_, _], ⟨ns, c, rfl, rfl, hl, q⟩ =>
    simp only [zjo, zg8, zlq, zmm, dSeq, dIfS, zay, dOp, zk, dC, dRet, zlh, zi, dNil, dTup, zdd, dAsg, zne, zab, zov, dM, dM0, dIf, dAnd, dOr, dNot, zhq, dOrV, zml, zjx, dFz, zp7, zse, zm4, zr8, dCB, zkw, zc1, zkl, zri, dNeg, dAug, zpm, dFrz, dPar, zhc, zqe, zkr, dYes, zks, i2, d1, d2, d3, za4, List.map_cons, List.map_nil, List.length_cons, List.length_nil, List.cons_append, List.nil_append, List.append_nil, List.getElem?_cons_zero, List.getElem?_cons_succ, List.getElem?_nil, List.replicate, List.set_cons_succ, List.set_cons_zero, Nat.reduceAdd, Nat.reduceSub, Nat.reduceLeDiff, zjk, zjn, zmr, zmw, zm6, zmo, zg5, zfe, true_and, and_true, Bool.not_eq_true, Bool.not_true, Bool.not_false, if_true, if_false, Bool.false_eq_true, ite_true, ite_false, reduceIte, reduceCtorEq, decide_eq_true_eq, decide_eq_false_iff_not]
    refine zw8 ?_
    simp only [zlq, zmm, dSeq, dIfS, zay, dOp, zk, dC, dRet, zlh, zi, dNil, dTup, zdd, dAsg, zne, zab, zov, dM, dM0, dIf, dAnd, dOr, dNot, zhq, dOrV, zml, zjx, dFz, zp7, zse, zm4, zr8, dCB, zkw, zc1, zkl, zri, dNeg, dAug, zpm, dFrz, dPar, zhc, zqe, zkr, dYes, zks, i2, d1, d2, d3, za4, List.map_cons, List.map_nil, List.length_cons, List.length_nil, List.cons_append, List.nil_append, List.append_nil, List.getElem?_cons_zero, List.getElem?_cons_succ, List.getElem?_nil, List.replicate, List.set_cons_succ, List.set_cons_zero, Nat.reduceAdd, Nat.reduceSub, Nat.reduceLeDiff, zjk, zjn, zmr, zmw, zm6, zmo, zg5, zfe, true_and, and_true, Bool.not_eq_true, Bool.not_true, Bool.not_false, if_true, if_false, Bool.false_eq_true, ite_true, ite_false, reduceIte, reduceCtorEq, decide_eq_true_eq, decide_eq_false_iff_not]
    split
    · rename_i hne
      have hp : 0 < ns.length := by
        cases ns with
        | nil => simp at hne
        | cons _ _ => simp
      refine ⟨by omega, zw5 (Int.emod_nonneg _ (by omega)) (Int.emod_lt_of_pos _ (by omega)) fun z => ⟨⟨by omega, by omega⟩, ?_⟩⟩
      split
      · exact ⟨⟨by decide, by decide, by decide⟩, trivial, zo3 q⟩
      · exact zo3 q
    · split
      · exact ⟨⟨by decide, by decide, by decide⟩, zo3 q⟩
      · exact zo3 q
theorem zsd : ∀ ds G Q, zp ds G Q → zlp { nx := fun _ G' => Q .non G', rt := Q } (za4 zju ds) G := fun ds G Q h => by
  match ds, h with
  | [_, _], ⟨a, ns, c, n, rfl, rfl, hn, hl, hG, q⟩ =>
    simp only [zlp, zju, dSeq, dIfS, zay, dOp, zk, dC, dRet, zlh, zi, dNil, dTup, zdd, dAsg, zne, zab, zov, dM, dM0, dIf, dAnd, dOr, dNot, zhq, dOrV, zml, zjx, dFz, zp7, zse, zm4, zr8, dCB, zkw, zc1, zkl, zri, dNeg, dAug, zpm, dFrz, dPar, zhc, zqe, zkr, dYes, zks, i2, d1, d2, d3, za4, List.map_cons, List.map_nil, List.length_cons, List.length_nil, List.cons_append, List.nil_append, List.append_nil, List.getElem?_cons_zero, List.getElem?_cons_succ, List.getElem?_nil, List.replicate, List.set_cons_succ, List.set_cons_zero, Nat.reduceAdd, Nat.reduceSub, Nat.reduceLeDiff, zjk, zjn, zmr, zmw, zm6, zmo, zg5, zfe, true_and, and_true, Bool.not_eq_true, Bool.not_true, Bool.not_false, if_true, if_false, Bool.false_eq_true, ite_true, ite_false, reduceIte, reduceCtorEq, decide_eq_true_eq, decide_eq_false_iff_not]
    have e1 : der (.ref a) G = .nd .lst [.nd .scr (ns.map .int), .int c] := z1g hG
    show zyc (.ref a) (.int 1) G _
    unfold zyc
    rw [e1]
    refine znz (by decide) rfl ?_
    simp only [dSeq, dIfS, zay, dOp, zk, dC, dRet, zlh, zi, dNil, dTup, zdd, dAsg, zne, zab, zov, dM, dM0, dIf, dAnd, dOr, dNot, zhq, dOrV, zml, zjx, dFz, zp7, zse, zm4, zr8, dCB, zkw, zc1, zkl, zri, dNeg, dAug, zpm, dFrz, dPar, zhc, zqe, zkr, dYes, zks, i2, d1, d2, d3, za4, List.map_cons, List.map_nil, List.length_cons, List.length_nil, List.cons_append, List.nil_append, List.append_nil, List.getElem?_cons_zero, List.getElem?_cons_succ, List.getElem?_nil, List.replicate, List.set_cons_succ, List.set_cons_zero, Nat.reduceAdd, Nat.reduceSub, Nat.reduceLeDiff, zjk, zjn, zmr, zmw, zm6, zmo, zg5, zfe, true_and, and_true, Bool.not_eq_true, Bool.not_true, Bool.not_false, if_true, if_false, Bool.false_eq_true, ite_true, ite_false, reduceIte, reduceCtorEq, decide_eq_true_eq, decide_eq_false_iff_not]
    have e2 : up G a (.lst ([D.nd .scr (ns.map .int), .int c].set 1 (.int (c + 1)))) = up G a (drw ns (c + 1)) := rfl
    have hs : ∀ R, R (up G a (drw ns (c + 1))) → dSet (.ref a) (.int 1) (.int (c + 1)) G R := fun R h => by
      show (match G a with | some (.lst ds) => _ | some (.dN kvs) => _ | some (.dK kvs) => _ | _ => False)
      rw [hG]
      exact h
    refine hs _ ?_
    have e3 : der (.ref a) (up G a (drw ns (c + 1))) = .nd .lst [.nd .scr (ns.map .int), .int (c + 1)] := z1g zt
    have hix : ∀ (i : Int) (d : D) R, 0 ≤ i → [D.nd .scr (ns.map .int), .int (c + 1)][i.toNat]? = some d → R d (up G a (drw ns (c + 1))) → dIx (.ref a) (.int i) (up G a (drw ns (c + 1))) R := fun i d R h0 h1 h => by
      unfold dIx
      rw [e3]
      exact znz h0 h1 h
    refine hix 0 _ _ (by decide) rfl ?_
    refine hix 1 _ _ (by decide) rfl ?_
    simp only [zmm, dSeq, dIfS, zay, dOp, zk, dC, dRet, zlh, zi, dNil, dTup, zdd, dAsg, zne, zab, zov, dM, dM0, dIf, dAnd, dOr, dNot, zhq, dOrV, zml, zjx, dFz, zp7, zse, zm4, zr8, dCB, zkw, zc1, zkl, zri, dNeg, dAug, zpm, dFrz, dPar, zhc, zqe, zkr, dYes, zks, i2, d1, d2, d3, za4, List.map_cons, List.map_nil, List.length_cons, List.length_nil, List.cons_append, List.nil_append, List.append_nil, List.getElem?_cons_zero, List.getElem?_cons_succ, List.getElem?_nil, List.replicate, List.set_cons_succ, List.set_cons_zero, Nat.reduceAdd, Nat.reduceSub, Nat.reduceLeDiff, zjk, zjn, zmr, zmw, zm6, zmo, zg5, zfe, true_and, and_true, Bool.not_eq_true, Bool.not_true, Bool.not_false, if_true, if_false, Bool.false_eq_true, ite_true, ite_false, reduceIte, reduceCtorEq, decide_eq_true_eq, decide_eq_false_iff_not]
    refine ⟨ns, c + 1, rfl, rfl, hl, fun r hr => ?_⟩
    simp only [zmm, dSeq, dIfS, zay, dOp, zk, dC, dRet, zlh, zi, dNil, dTup, zdd, dAsg, zne, zab, zov, dM, dM0, dIf, dAnd, dOr, dNot, zhq, dOrV, zml, zjx, dFz, zp7, zse, zm4, zr8, dCB, zkw, zc1, zkl, zri, dNeg, dAug, zpm, dFrz, dPar, zhc, zqe, zkr, dYes, zks, i2, d1, d2, d3, za4, List.map_cons, List.map_nil, List.length_cons, List.length_nil, List.cons_append, List.nil_append, List.append_nil, List.getElem?_cons_zero, List.getElem?_cons_succ, List.getElem?_nil, List.replicate, List.set_cons_succ, List.set_cons_zero, Nat.reduceAdd, Nat.reduceSub, Nat.reduceLeDiff, zjk, zjn, zmr, zmw, zm6, zmo, zg5, zfe, true_and, and_true, Bool.not_eq_true, Bool.not_true, Bool.not_false, if_true, if_false, Bool.false_eq_true, ite_true, ite_false, reduceIte, reduceCtorEq, decide_eq_true_eq, decide_eq_false_iff_not]
    exact ⟨hn, q _ (Int.emod_nonneg _ (by omega)) (Int.emod_lt_of_pos _ hn)⟩
/-- a draw -/
theorem zzv {a : Addr} {ns : List Int} {c n : Int} {G : DHp} {Q : DVK} (hn : 0 < n) (hl : ns.length ≤ 63) (hG : G a = some (drw ns c)) (q : ∀ r : Int, 0 ≤ r → r < n → Q (.int r) (up G a (drw ns (c + 1)))) : zp [.ref a, .int n] G Q :=
  ⟨a, ns, c, n, rfl, rfl, hn, hl, hG, q⟩
end DL
namespace DL
open PySem PySem.Spec PyProof.Rows L2
def srtT {α : Type} (f : α → D) (xs : List α) : List α := xs.mergeSort fun a b => PySem.W.dataLe false py (f a) (f b)
theorem zun {α : Type} (f : α → D) (xs : List α) : srt (xs.map f) = (srtT f xs).map f := by
  unfold srt srtT
  exact (List.map_mergeSort (r := fun a b => PySem.W.dataLe false py (f a) (f b)) (s := PySem.W.dataLe false py) (f := f) (l := xs) fun a _ b _ => rfl).symm
theorem zio {α : Type} (f : α → D) (xs : List α) : (srtT f xs).Perm xs := List.mergeSort_perm _ _
theorem zrc {α : Type} {f : α → D} {d : D} {xs : List α} {G : DHp} {Q : DVK} (h : lsD d G = some (xs.map f)) (hp : ∀ a, zba (f a) = true) (al : ∀ a b, PySem.W.alike (py (f a)) (py (f b)) = true) (st : PySem.W.Sortable ((xs.map f).map py)) (dp : ∀ a, (py (f a)).depth ≤ 60)
    (q : ∀ p, G p = none → Q (.ref p) (up G p (.lst ((srtT f xs).map f)))) : zrt [d] G Q := by
  show (match lsD d G with | some ds => _ | none => False)
  rw [h]
  refine ⟨⟨cleans_plain (zi7 hp xs), ?_, st, fun d hd => ?_⟩, fun p hn => by rw [zun]; exact q p hn⟩
  · rw [List.map_map]; exact PySem.W.AllAlike.of al
  · obtain ⟨a, _, rfl⟩ := List.mem_map.mp hd; exact dp a
theorem al2 (a b : Int × Int) : PySem.W.alike (py (e2 a)) (py (e2 b)) = true := by simp [e2, py, pys, PySem.W.alike, PySem.W.alikeAll]
theorem al3 (a b : Int × Int × Int) : PySem.W.alike (py (e3 a)) (py (e3 b)) = true := by simp [e3, py, pys, PySem.W.alike, PySem.W.alikeAll]
theorem st2 (xs : List (Int × Int)) : PySem.W.Sortable ((xs.map e2).map py) := by
  rw [List.map_map]
  exact PySem.W.Sortable.tuples fun b => ⟨.int b.1, [.int b.2], by simp [e2, py, pys]⟩
theorem st3 (xs : List (Int × Int × Int)) : PySem.W.Sortable ((xs.map e3).map py) := by
  rw [List.map_map]
  exact PySem.W.Sortable.tuples fun b => ⟨.int b.1, [.int b.2.1, .int b.2.2], by simp [e3, py, pys]⟩
/-- the order of tuples of ints -/
theorem zx0 (xs ys : List Int) : (!PySem.W.dataLt (.tuple (ys.map .int)) (.tuple (xs.map .int))) = decide (xs ≤ ys) := by
  rw [PySem.W.dataLt_tuple]
  have := PySem.W.dataLt_ints ys xs
  have h2 : PyProof.Rows.lexLt itemOrd (PySem.W.keyToksAll (ys.map .int)) (PySem.W.keyToksAll (xs.map .int)) = decide (ys < xs) := this
  rw [h2, ← decide_not]
  exact decide_eq_decide.mpr Iff.rfl
theorem z3p (a b : Int × Int × Int) : PySem.W.dataLe false py (e3 a) (e3 b) = decide ([a.1, a.2.1, a.2.2] ≤ [b.1, b.2.1, b.2.2]) := by
  rw [← zx0, PySem.W.dataLe_eq]
  simp [e3, py, pys]
/-- two sortings of the same are the same -/
theorem zmq {α : Type} {le : α → α → Bool} (anti : ∀ a b, le a b = true → le b a = true → a = b) : ∀ {xs ys : List α}, xs.Perm ys → xs.Pairwise (fun a b => le a b = true) → ys.Pairwise (fun a b => le a b = true) → xs = ys
  | [], ys, p, _, _ => (List.Perm.nil_eq p)
  | x :: xs, [], p, _, _ => absurd p.length_eq (by simp)
  | x :: xs, y :: ys, p, hx, hy => by
    rw [List.pairwise_cons] at hx hy
    have e : x = y := by
      have m1 : x ∈ y :: ys := p.subset (by simp)
      have m2 : y ∈ x :: xs := p.symm.subset (by simp)
      rcases List.mem_cons.mp m1 with e | m1
      · exact e
      · rcases List.mem_cons.mp m2 with e | m2
        · exact e.symm
        · exact anti _ _ (hx.1 y m2) (hy.1 x m1)
    subst e
    rw [zmq anti ((List.perm_cons x).mp p) hx.2 hy.2]
theorem zsg {α : Type} {f : α → D} {g : α → List Int} (hf : ∀ a b, PySem.W.dataLe false py (f a) (f b) = decide (g a ≤ g b)) (gi : ∀ a b, g a = g b → a = b) {xs ys : List α} (p : xs.Perm ys) : srtT f xs = srtT f ys := by
  have tr : ∀ a b c : α, PySem.W.dataLe false py (f a) (f b) = true → PySem.W.dataLe false py (f b) (f c) = true → PySem.W.dataLe false py (f a) (f c) = true := fun a b c h1 h2 => by
    rw [hf, decide_eq_true_eq] at *
    exact List.le_trans h1 h2
  have tot : ∀ a b : α, (PySem.W.dataLe false py (f a) (f b) || PySem.W.dataLe false py (f b) (f a)) = true := fun a b => by
    rw [hf, hf, Bool.or_eq_true, decide_eq_true_eq, decide_eq_true_eq]
    exact List.le_total _ _
  refine zmq (le := fun a b => PySem.W.dataLe false py (f a) (f b)) (fun a b h1 h2 => ?_) ((zio f xs).trans (p.trans (zio f ys).symm)) ?_ ?_
  · rw [hf, decide_eq_true_eq] at h1 h2
    exact gi _ _ (List.le_antisymm h1 h2)
  · exact List.pairwise_mergeSort tr tot xs
  · exact List.pairwise_mergeSort tr tot ys
theorem zzb {α : Type} {f : α → D} {g : α → List Int} (hf : ∀ a b, PySem.W.dataLe false py (f a) (f b) = decide (g a ≤ g b)) {xs : List α} (h : xs.Pairwise fun a b => g a ≤ g b) : srtT f xs = xs :=
  List.mergeSort_of_pairwise (h.imp fun h => by rw [hf]; exact decide_eq_true h)
theorem zxm {α : Type} [DecidableEq α] {xs ys : List α} (h1 : xs.Nodup) (h2 : ys.Nodup) (h : ∀ a, a ∈ xs ↔ a ∈ ys) : xs.Perm ys := by
  rw [List.perm_iff_count]
  intro a
  rw [h1.count, h2.count]
  simp only [h]
theorem zmc {α β : Type} {f : α → List β} {B : Nat} : ∀ {xs : List α}, (∀ x ∈ xs, (f x).length ≤ B) → (xs.flatMap f).length ≤ xs.length * B
  | [], _ => by simp
  | x :: xs, h => by
    rw [List.flatMap_cons, List.length_append, List.length_cons, Nat.succ_mul]
    have := h x (by simp)
    have := zmc (f := f) (B := B) (xs := xs) fun y hy => h y (by simp [hy])
    omega
end DL
namespace DL
open PySem PySem.Spec PyProof.Rows L2
/-- the field n set to d -/
def fput (n : Str) (d : D) : List (Str × D) → List (Str × D)
  | [] => [(n, d)]
  | (g, x) :: r => if g = n then (g, d) :: r else (g, x) :: fput n d r
/-- the field of an instance of the class C -/
def fldD (C : Addr) (n : Str) (x : D) (G : DHp) : Option D := match x with
  | .ref a => (match G a with
    | some (.ins B fs) => if B = C then fs.lookup n else none
    | _ => none)
  | .nd (.ins B ns) ds => if B = C then (ns.zip ds).lookup n else none
  | _ => none
/-- an instance of the class C, without a field m of its own -/
def insD (C : Addr) (m : Str) (x : D) (G : DHp) : Prop := match x with
  | .ref a => (match G a with
    | some (.ins B fs) => B = C ∧ (fs.map (·.1)).contains m = false
    | _ => False)
  | .nd (.ins B ns) _ => B = C ∧ ns.contains m = false
  | _ => False
section
variable {K : Ml} {H : Hp} {G : DHp}
theorem zxs (n : Str) {d : D} {v : V} (q : VR K H G d v) : ∀ {fs : List (Str × D)} {ws : List (Str × V)}, ws.map (·.1) = fs.map (·.1) → VRs K H G (fs.map (·.2)) (ws.map (·.2)) →
    (putF n v ws).map (·.1) = (fput n d fs).map (·.1) ∧ VRs K H G ((fput n d fs).map (·.2)) ((putF n v ws).map (·.2))
  | [], [], _, _ => ⟨rfl, .cons q .nil⟩
  | [], _ :: _, h, _ => by simp at h
  | _ :: _, [], h, _ => by simp at h
  | (g, x) :: fs, (g2, y) :: ws, h, r => by
    simp only [List.map_cons, List.cons.injEq] at h
    obtain ⟨h1, h2⟩ := h
    subst h1
    obtain ⟨v', r', eq, q1, t⟩ := VRs.uncons r
    simp only [List.map_cons, List.cons.injEq] at eq
    obtain ⟨rfl, rfl⟩ := eq
    by_cases hg : g2 = n
    · simp only [fput, putF, hg, if_true, List.map_cons]
      exact ⟨by rw [h2], .cons q t⟩
    · simp only [fput, putF, hg, if_false, List.map_cons]
      obtain ⟨a, b⟩ := zxs n q h2 t
      exact ⟨by rw [a], .cons q1 b⟩
theorem zve {n : Str} {d : D} : ∀ {fs : List (Str × D)} {ws : List (Str × V)}, ws.map (·.1) = fs.map (·.1) → VRs K H G (fs.map (·.2)) (ws.map (·.2)) → fs.lookup n = some d → ∃ v, ws.lookup n = some v ∧ VR K H G d v
  | [], _, _, _, e => by simp at e
  | _ :: _, [], h, _, _ => by simp at h
  | (g, x) :: fs, (g2, y) :: ws, h, r, e => by
    simp only [List.map_cons, List.cons.injEq] at h
    obtain ⟨h1, h2⟩ := h
    subst h1
    obtain ⟨v', r', eq, q1, t⟩ := VRs.uncons r
    simp only [List.map_cons, List.cons.injEq] at eq
    obtain ⟨rfl, rfl⟩ := eq
    by_cases hg : (n == g2) = true
    · simp only [List.lookup, hg, Option.some.injEq] at e ⊢
      subst e
      exact ⟨_, rfl, q1⟩
    · have hg : (n == g2) = false := by simpa using hg
      simp only [List.lookup, hg] at e ⊢
      exact zve h2 t e
theorem zpt {n : Str} : ∀ {ws : List (Str × V)}, (ws.map (·.1)).contains n = false → ws.lookup n = none
  | [], _ => rfl
  | (g, y) :: ws, h => by
    simp only [List.map_cons, List.contains_cons, Bool.or_eq_false_iff] at h
    simp only [List.lookup, h.1]
    exact zpt h.2
theorem zvi : ∀ {ns : List Str} {vs : List V}, ns.length = vs.length → (ns.zip vs).map (·.1) = ns
  | [], [], _ => rfl
  | n :: ns, v :: vs, h => by
    simp only [List.zip_cons_cons, List.map_cons]
    rw [zvi (by simpa using h)]
theorem zxw : ∀ {ns : List Str} {vs : List V}, ns.length = vs.length → (ns.zip vs).map (·.2) = vs
  | [], [], _ => rfl
  | n :: ns, v :: vs, h => by
    simp only [List.zip_cons_cons, List.map_cons]
    rw [zxw (by simpa using h)]
theorem zwg : ∀ {ns : List Str} {vs : List D}, ns.length = vs.length → (ns.zip vs).map (·.1) = ns
  | [], [], _ => rfl
  | n :: ns, v :: vs, h => by
    simp only [List.zip_cons_cons, List.map_cons]
    rw [zwg (by simpa using h)]
theorem zwt : ∀ {ns : List Str} {vs : List D}, ns.length = vs.length → (ns.zip vs).map (·.2) = vs
  | [], [], _ => rfl
  | n :: ns, v :: vs, h => by
    simp only [List.zip_cons_cons, List.map_cons]
    rw [zwt (by simpa using h)]
/-- what stands where a field is read -/
theorem z21 {C : Addr} {n : Str} {x d : D} {v : V} (hr : HR K H G) (q : VR K H G x v) (e : fldD C n x G = some d) :
    ∃ a dx ws u, v = .ref a ∧ H a = some (.ins C dx ws) ∧ ws.lookup n = some u ∧ VR K H G d u := by
  cases x with
  | ref a =>
    rw [VR] at q
    have e : (match G a with
      | some (.ins B fs) => if B = C then fs.lookup n else none
      | _ => none) = some d := e
    cases hG : G a with
    | none => rw [hG] at e; cases e
    | some o =>
      rw [hG] at e
      cases o with
      | ins B fs =>
        simp only at e
        by_cases hB : B = C
        · subst hB
          rw [if_pos rfl] at e
          obtain ⟨dx, ws, h1, h2, h3⟩ := hr a _ hG
          obtain ⟨u, h4, h5⟩ := zve h2 h3 e
          exact ⟨a, dx, ws, u, q, h1, h4, h5⟩
        · rw [if_neg hB] at e; cases e
      | _ => cases e
  | nd k ds =>
    cases k with
    | ins B ns =>
      rw [VR] at q
      obtain ⟨a, vs, rfl, ⟨h0, h1, dx, h2⟩, r⟩ := q
      have e : (if B = C then (ns.zip ds).lookup n else none) = some d := e
      by_cases hB : B = C
      · subst hB
        rw [if_pos rfl] at e
        have hl : ns.length = ds.length := h1.trans r.length
        obtain ⟨u, h4, h5⟩ := zve (ws := ns.zip vs) (by rw [zvi h1, zwg hl]) (by rw [zxw h1, zwt hl]; exact r) e
        exact ⟨a, dx, _, u, rfl, h2, h4, h5⟩
      · rw [if_neg hB] at e; cases e
    | _ => cases e
  | _ => cases e
/-- what stands where a method is asked for -/
theorem z14 {C : Addr} {m : Str} {x : D} {v : V} (hr : HR K H G) (q : VR K H G x v) (e : insD C m x G) : ∃ a dx ws, v = .ref a ∧ H a = some (.ins C dx ws) ∧ ws.lookup m = none := by
  cases x with
  | ref a =>
    rw [VR] at q
    have e : (match G a with
      | some (.ins B fs) => B = C ∧ (fs.map (·.1)).contains m = false
      | _ => False) := e
    cases hG : G a with
    | none => rw [hG] at e; exact e.elim
    | some o =>
      rw [hG] at e
      cases o with
      | ins B fs =>
        have e2 : B = C := e.1
        have e3 := e.2
        subst e2
        obtain ⟨dx, ws, h1, h2, h3⟩ := hr a _ hG
        exact ⟨a, dx, ws, q, h1, zpt (by rw [h2]; exact e3)⟩
      | _ => exact e.elim
  | nd k ds =>
    cases k with
    | ins B ns =>
      rw [VR] at q
      obtain ⟨a, vs, rfl, ⟨h0, h1, dx, h2⟩, r⟩ := q
      obtain ⟨rfl, e⟩ := e
      exact ⟨a, dx, _, rfl, h2, zpt (by rw [zvi h1]; exact e)⟩
    | _ => exact e.elim
  | _ => exact e.elim
end
section
variable {X : Cx}
/-- o.n -/
def dFld (C : Addr) (n : Str) (T : DTE) : DTE := fun η G Q => T η G fun x G1 => match fldD C n x G1 with
  | some d => Q d G1
  | none => False
theorem z6 [Bs] {C : Addr} {n : Str} {e : Expr} {T : DTE} {pos : Pos} (c : Cls X.K C) (na : NoAttr X.K C n) (he : PED X e T) (hb : attributeBase e n X.env (eval e X.env) = eval e X.env := by rfl) : PED X (.Attribute e n pos) (dFld C n T) :=
  PE.impI (pe_fld he hb) fun _ _ σ H Q _ ⟨η, G, P, hs, hr, t, k⟩ => ⟨η, G, _, hs, hr, t, fun d G1 v H1 p1 x1 r1 q1 => by
    cases e : fldD C n d G1 with
    | none => rw [e] at p1; exact p1.elim
    | some z =>
      rw [e] at p1
      obtain ⟨a, dx, ws, u, h1, h2, h3, h4⟩ := z21 r1 q1 e
      exact ⟨a, C, dx, ws, u, h1, h2, c, na, h3, k z G1 u H1 p1 x1 r1 h4⟩⟩
/-- o.n = value, o tracked -/
def zik (C : Addr) (n : Str) (To Tv : DTE) : DTS := fun F η G => Tv η G fun y G1 => To η G1 fun x G2 => match x with
  | .ref a => (match G2 a with
    | some (.ins B fs) => (B = C ∧ fs.length < 1000) ∧ F.nx η (up G2 a (.ins C (fput n y fs)))
    | _ => False)
  | _ => False
theorem zea [Bs] {C : Addr} {n : Str} {o e : Expr} {To Tv : DTE} {pos pos' : Pos} (c : Cls X.K C) (na : NoAttr X.K C n) (ho : PED X o To) (he : PED X e Tv) (hs : swapsWith e (some (.Attribute o n pos')) pos.line X.env = pure false := by rfl) : PSD X (.Assign [.Attribute o n pos'] e pos) (zik C n To Tv) :=
  PS.impI (ps_fld ho he hs) fun _ _ σ H E _ ⟨η, G, F, hs, hr, t, k⟩ => ⟨η, G, _, hs, hr, t, fun y G1 vy H1 p1 x1 r1 q1 => ⟨η, G1, _, hs.ext hr x1, r1, p1, fun d G2 v H2 p2 x2 r2 q2 => by
    cases d with
    | ref a =>
      rw [VR] at q2
      cases hG : G2 a with
      | none =>
        have : False := by simpa [hG] using p2
        exact this.elim
      | some ob =>
        cases ob with
        | ins B fs =>
          have p2 : (B = C ∧ fs.length < 1000) ∧ F.nx η (up G2 a (.ins C (fput n y fs))) := by simpa [hG] using p2
          obtain ⟨⟨rfl, hl⟩, p2⟩ := p2
          obtain ⟨dx, ws, h1, h2, h3⟩ := r2 a _ hG
          have x3 : Ext H2 G2 (upd H2 a (.ins B dx (putF n vy ws))) (up G2 a (.ins B (fput n y fs))) := .write hG
          obtain ⟨h4, h5⟩ := zxs n (q1.ext r1 x2) h2 h3
          have hl2 : ws.length < 1000 := by
            have := congrArg List.length h2
            rw [List.length_map, List.length_map] at this
            omega
          refine ⟨a, B, dx, ws, q2, h1, c, na, hl2, k.nx η _ σ _ p2 ((x1.trans x2).trans x3) (hs.ext hr ((x1.trans x2).trans x3)) (r2.write hG ⟨dx, _, upd_same, h4, h5.ext r2 x3⟩)⟩
        | _ =>
          have : False := by simpa [hG] using p2
          exact this.elim
    | _ => exact p2.elim⟩⟩
/-- C(..): the new instance stays tracked -/
def zfl (C : Addr) (sp : DRn) (T : DTA) : DTE := fun η G Q => T η G fun ds G1 => ∀ x, G1 x = none → sp (.ref x :: ds) (up G1 x (.ins C [])) fun d G2 => d = .non ∧ Q (.ref x) G2
theorem zec [Bs] {C : Addr} {k : Nat} {f : Addr} {fd : FuncData} {ps : List Str} {sp : DRn} {x : Str} {p pos : Pos} {e : Expr} {es : List Expr} {T : DTA} (M : Mk X.K C f) (F : FnD X.prog X.w X.K X.mg X.base k f fd ps sp) (hr : Room (k + 1) X.A) (hm : X.mg x = some (.ref C)) (hb : Binds X.K fd ps [])
    (ha : PAD X (e :: es) T) (hg : Gl X x := by rfl) (hdb : (x == ("__debug__" : Str)) = false := by decide) (he : starEach (e :: es) X.env = (false, eval e X.env) :: starEach es X.env := by rfl) (hpl : (backTo pos (starEach es X.env)).any (·.1) = false := by rfl) :
    PED X (.Call (.Name x p) (e :: es) [] pos) (zfl C sp T) :=
  PE.impI (pe_make M F hr hg hm hb .nil (zxk (X := X)) ha hdb he hpl) fun _ _ σ H Q _ ⟨η, G, P, hs, hr, t, k⟩ => ⟨η, G, _, hs, hr, t, fun ds G1 vs H1 p1 x1 r1 q1 => fun x dx hx hdx hne => by
    have x2 : Ext H1 G1 (upd H1 dx (.own x)) G1 := .laid hdx
    have r2 : HR X.ml (upd H1 dx (.own x)) G1 := r1.laid hdx
    have hx' : (upd H1 dx (.own x)) x = none := by rw [upd_ne hne.symm]; exact hx
    have x3 : Ext (upd H1 dx (.own x)) G1 (upd (upd H1 dx (.own x)) x (.ins C dx [])) (up G1 x (.ins C [])) := .new hx'
    have r3 := r2.new (u := .ins C []) hx' ⟨dx, [], upd_same, rfl, .nil⟩
    show zw4 X.ml sp (.ref x :: (vs ++ [])) _ _
    rw [List.append_nil]
    exact ⟨.ref x :: ds, _, _, .cons (by rw [VR]) ((q1.ext r1 x2).ext r2 x3), r3, p1 x (r1.free hx), fun d G' v H' ⟨pd, pq⟩ xx rr qq => ⟨by subst pd; rw [VR] at qq; exact qq, k _ G' (.ref x) H' pq (((x1.trans x2).trans x3).trans xx) rr (by rw [VR])⟩⟩⟩
/-- o.m(..), m a def of the class -/
def zlv (C : Addr) (m : Str) (sp : DRn) (To : DTE) (T : DTA) : DTE := fun η G Q => To η G fun x G1 => insD C m x G1 ∧ T η G1 fun ds G2 => sp (x :: ds) G2 Q
theorem zft [Bs] {C : Addr} {m : Str} {k : Nat} {f : Addr} {fd : FuncData} {ps : List Str} {sp : DRn} {apos pos : Pos} {o : Expr} {To : DTE} {pl : Sem Bool} (c : Cls X.K C) (hm : Meth X.K C m f) (F : FnD X.prog X.w X.K X.mg X.base k f fd ps sp) (hr : Room k X.A) (hb : Binds X.K fd ps [])
    (ho : PED X o To)
    (ht : eval (.Call (.Attribute o m apos) [] [] pos) X.env = (do
      let ov ← eval o X.env
      standAt apos.atName
      let (g, first) ← holding [ov] (getMethod ov m pl)
      callWith pos g first (backTo pos (starEach [] X.env)) (backToKw pos (keywordEach [] X.env))) := by rfl) :
    PED X (.Call (.Attribute o m apos) [] [] pos) (zlv C m sp To dNil) :=
  PE.impI (pe_meth0 (pl := pl) ho c hm F hr hb .nil (zxk (X := X)) ht) fun _ _ σ H Q _ ⟨η, G, P, hs, hr, t, k⟩ => ⟨η, G, _, hs, hr, t, fun d G1 v H1 ⟨pi, p1⟩ x1 r1 q1 => by
    obtain ⟨a, dx, ws, h1, h2, h3⟩ := z14 r1 q1 pi
    exact ⟨a, dx, ws, h1, h2, h3, [d], G1, P, .cons q1 .nil, r1, p1, fun d' G' v' H' p x r q => k d' G' v' H' p (x1.trans x) r q⟩⟩
end
end DL
namespace DL
open PySem PySem.Spec PyProof.Rows L2
/-- the type of a tree -/
def kTy (x : D) (G : DHp) : Option Value := match x with
  | .non => some (.type "NoneType")
  | .bl _ => some (.type "bool")
  | .int _ => some (.type "int")
  | .str _ => some (.type "str")
  | .nd .tup _ => some (.type "tuple")
  | .nd .lst _ => some (.type "list")
  | .nd .scr _ => some (.type "list")
  | .nd (.dK _) _ => some (.type "dict")
  | .nd (.ins C _) _ => some (.ref C)
  | .ref a => (match G a with
    | some (.lst _) => some (.type "list")
    | some (.dK _) => some (.type "dict")
    | some (.ins C _) => some (.ref C)
    | _ => none)
  | _ => none
def kCl (c : D) : Option Value := match c with
  | .ty n => some (.type n)
  | .ref C => some (.ref C)
  | _ => none
/-- a class whose instances tell their class -/
structure IsC (K : PySem.W.Frag) (C : Addr) : Prop where
  cl : Cls K C
  own : PySem.W.findIn K (.ref C) "__class__" = some (some (.builtin "object.__class__"))
  gs : PySem.W.specialIn K (.builtin "object.__class__") "__get__" = some (some (.builtin "getset_descriptor.__get__"))
  tk : PySem.W.takesIn K (.builtin "object.__class__") = some true
  ob : PySem.W.mroIn K C (.type "object") = some true
/-- the table tells the truth -/
def z2t (K : PySem.W.Frag) (I : Value → Value → Option Bool) : Prop := ∀ t u b, I t u = some b → PySem.W.kitOne K t u = some b ∧ ∀ C, t = .ref C → IsC K C
def dIsi (I : Value → Value → Option Bool) : DRn := d2 fun x c G Q => match kTy x G, kCl c with
  | some t, some u => (match I t u with
    | some b => Q (.bl b) G
    | none => False)
  | _, _ => False
abbrev zxt : List String := ["int", "bool", "str", "tuple", "list", "dict", "NoneType"]
/-- of the built-in types -/
def tyIs (a b : String) : Option Bool := if a = b then some true else if a ∈ zxt ∧ b ∈ ["int", "bool", "str", "tuple", "list", "dict"] then some (a == "bool" && b == "int") else none
theorem z0q : ∀ a ∈ zxt, ∀ b ∈ ["int", "bool", "str", "tuple", "list", "dict"], a ≠ b → kitB a b = some (a == "bool" && b == "int") := by decide +kernel
theorem z0p {K : PySem.W.Frag} {a b : String} {r : Bool} (h : tyIs a b = some r) : PySem.W.kitOne K (.type a) (.type b) = some r := by
  unfold tyIs at h
  refine kit_ty ?_
  split at h
  · rename_i e
    subst e
    cases h
    unfold kitB
    rw [if_pos (by simp)]
  · rename_i e
    split at h
    · rename_i q
      rw [z0q a q.1 b q.2 e]
      exact h
    · cases h
section
variable {X : Cx}
theorem z3z {K : Ml} {H : Hp} {G : DHp} {x : D} {v : V} {t : Value} (hr : HR K H G) (q : VR K H G x v) (e : kTy x G = some t) (ic : ∀ C, t = .ref C → IsC K.K C) : TyX K.K H v t := by
  cases x with
  | non => rw [VR] at q; subst q; cases e; exact .base .non
  | bl b => rw [VR] at q; subst q; cases e; exact .base (.bl _)
  | int b => rw [VR] at q; subst q; cases e; exact .base (.int _)
  | str b => rw [VR] at q; subst q; cases e; exact .base (.str _)
  | ty n => cases e
  | ref a =>
    rw [VR] at q
    subst q
    cases hG : G a with
    | none => simp [kTy, hG] at e
    | some o =>
      cases o with
      | lst ds =>
        have e : Value.type "list" = t := by simpa [kTy, hG] using e
        subst e
        obtain ⟨vs, h1, _⟩ := hr a _ hG
        exact .base (.lst h1)
      | dK kvs =>
        have e : Value.type "dict" = t := by simpa [kTy, hG] using e
        subst e
        obtain ⟨ws, h1, _⟩ := hr a _ hG
        exact .base (.dK h1)
      | dN kvs => simp [kTy, hG] at e
      | rw _ _ _ => simp [kTy, hG] at e
      | ins C fs =>
        have e : Value.ref C = t := by simpa [kTy, hG] using e
        subst e
        obtain ⟨dx, ws, h1, _⟩ := hr a _ hG
        have c := ic C rfl
        exact .base (.ins h1 c.cl c.own c.gs c.tk c.ob)
  | nd k ds =>
    rw [VR] at q
    obtain ⟨a, vs, rfl, hh, _⟩ := q
    cases k with
    | tup =>
      cases e
      rcases hh with (h | ⟨o, h⟩) | ⟨o, its, n, h1, h2, _⟩
      · exact .base (.tup h)
      · exact .fTuple h
      · exact .kTuple h1 h2
    | lst =>
      cases e
      exact .base (.lst hh.2)
    | scr =>
      cases e
      rcases hh with ⟨o, h⟩ | ⟨o, its, n, h1, h2, _⟩
      · exact .base (.frz h)
      · exact .kList h1 h2
    | dK ks =>
      cases e
      obtain ⟨_, o, h⟩ := hh
      exact .fDict h
    | dN ks => cases e
    | ins C ns =>
      cases e
      obtain ⟨_, _, dx, h⟩ := hh
      have c := ic C rfl
      exact .base (.ins h c.cl c.own c.gs c.tk c.ob)
theorem zg0 {I : Value → Value → Option Bool} (hI : z2t X.K I) : zms X (.builtin "isinstance") (dIsi I) := z1e fun pins s σ H G x y v u d e P Iv rx ry hr q1 q2 t => by
  cases ht : kTy d G with
  | none => rw [ht] at t; exact t.elim
  | some tt =>
    cases hc : kCl e with
    | none => rw [ht, hc] at t; exact t.elim
    | some uu =>
      rw [ht, hc] at t
      simp only at t
      cases hi : I tt uu with
      | none => rw [hi] at t; exact t.elim
      | some b =>
        rw [hi] at t
        obtain ⟨k1, k2⟩ := hI _ _ _ hi
        have cv : ClsV y uu := by
          cases e with
          | ty n => rw [VR] at q2; subst q2; cases hc; exact .ty n
          | ref C => rw [VR] at q2; subst q2; cases hc; exact .own C
          | _ => cases hc
        exact thn (call_isi pins s σ H [x, y] [v, u] (fun z H' => z = .bl b ∧ H' = H) Iv (.cons rx (.cons ry .nil)) ⟨x, y, tt, uu, b, rfl, cv, z3z hr q1 ht k2, k1, rfl, rfl⟩) fun w s' ⟨z, H', I', rz, e1, e2⟩ => by
          subst e1 e2
          exact ⟨.bl b, .bl b, _, _, I', rz, t, .refl _ _, hr, by rw [VR]⟩
end
/-- the items by their places -/
def znx (ds : List D) : List D := ds.mapIdx fun i d => .nd .tup [.int (i : Nat), d]
def zyl (T : DTA) : DTI := fun η G R => T η G fun ds G1 => match ds with
  | [d] => (match d with
    | .nd .tup xs => R (znx xs) zco G1
    | .nd .lst xs => R (znx xs) zco G1
    | .nd .scr xs => R (znx xs) zco G1
    | _ => False)
  | _ => False
theorem zpw {ds : List D} {i : Nat} {d : D} (h : (znx ds)[i]? = some d) : ∃ x, ds[i]? = some x ∧ d = .nd .tup [.int (i : Nat), x] := by
  unfold znx at h
  rw [List.getElem?_mapIdx] at h
  cases e : ds[i]? with
  | none => rw [e] at h; cases h
  | some x => rw [e] at h; cases h; exact ⟨x, rfl, rfl⟩
theorem ztb (ds : List D) : (znx ds).length = ds.length := by unfold znx; rw [List.length_mapIdx]
theorem Ite.itD {K : Ml} {H1 : Hp} {G1 : DHp} {a : Addr} {ds : List D} (h : ∀ H G, Ext H1 G1 H G → HR K H G → ∃ vs, SqL K.K H a vs ∧ VRs K H G ds vs) : ItD K H1 G1 (Ite K.K a) (znx ds) zco := by
  intro i H G x r o
  obtain ⟨vs, q, v⟩ := h H G x r
  refine ⟨fun d e => ?_, fun l => ⟨vs, q, by rw [v.length]; rw [ztb] at l; exact l⟩⟩
  obtain ⟨z, e1, rfl⟩ := zpw e
  obtain ⟨u, e2, q2⟩ := v.get e1
  refine ⟨⟨vs, u, q, e2⟩, fun y H' ⟨T, y2, e3, hT, e5, e4⟩ => ?_⟩
  subst e3 e5
  have e6 := e4 vs q
  rw [e2] at e6; cases e6
  have x2 : Ext H G (upd H T (.tup [.int (i : Nat), u])) G := .laid hT
  refine ⟨x2, r.laid hT, ?_⟩
  rw [VR]
  exact ⟨T, _, rfl, .inl (.inl upd_same), .cons (by rw [VR]) (.cons (q2.ext r x2) .nil)⟩
/-- the tuple at a, each item in a new pair -/
def IteT (K : PySem.W.Frag) (a : Addr) : It :=
  ⟨fun i H => ∃ (xs : List V) (x : V), SqT K H a xs ∧ xs[i]? = some x,
    fun i H v H' => ∃ T x, v = .ref T ∧ H T = none ∧ H' = upd H T (.tup [.int (i : Nat), x]) ∧ ∀ xs, SqT K H a xs → xs[i]? = some x,
    fun i H => ∃ xs : List V, SqT K H a xs ∧ xs.length ≤ i⟩
theorem IteT.itD {K : Ml} {H1 : Hp} {G1 : DHp} {a : Addr} {ds : List D} (h : ∀ H G, Ext H1 G1 H G → HR K H G → ∃ vs, SqT K.K H a vs ∧ VRs K H G ds vs) : ItD K H1 G1 (IteT K.K a) (znx ds) zco := by
  intro i H G x r o
  obtain ⟨vs, q, v⟩ := h H G x r
  refine ⟨fun d e => ?_, fun l => ⟨vs, q, by rw [v.length]; rw [ztb] at l; exact l⟩⟩
  obtain ⟨z, e1, rfl⟩ := zpw e
  obtain ⟨u, e2, q2⟩ := v.get e1
  refine ⟨⟨vs, u, q, e2⟩, fun y H' ⟨T, y2, e3, hT, e5, e4⟩ => ?_⟩
  subst e3 e5
  have e6 := e4 vs q
  rw [e2] at e6; cases e6
  have x2 : Ext H G (upd H T (.tup [.int (i : Nat), u])) G := .laid hT
  refine ⟨x2, r.laid hT, ?_⟩
  rw [VR]
  exact ⟨T, _, rfl, .inl (.inl upd_same), .cons (by rw [VR]) (.cons (q2.ext r x2) .nil)⟩
theorem z0j {P : Program} {w : World} {K : PySem.W.Frag} {elts : List Expr} {kk : Nat} {tpos : Pos} (a e it : Addr) (hai : a ≠ it) :
    Turn P w K (.Tuple elts kk tpos) (IteT K a) [e, it] e (fun i h => (∃ old, IsEnum h e it ((i : Nat) : Int) old) ∧ h.IsTupleIter it a i ∧ e ≠ it ∧ e ≠ a) where
  mem := by simp
  obj := fun i h ⟨⟨old, he⟩, ⟨o, ho, hc, hd⟩, _⟩ b hb => by
    rcases (by simpa using hb : b = e ∨ b = it) with z | z
    · subst z; exact ⟨_, he, fun v q => nomatch q⟩
    · subst z; exact ⟨o, ho, fun v q => by rw [hd] at q; cases q⟩
  keep := fun i h h' ⟨⟨old, he⟩, hi, hne⟩ k => ⟨⟨old, k e (by simp) _ he⟩, hi.at fun o q => k it (by simp) o q, hne⟩
  item := by
    intro X hP hw hK hc i pins s σ H E I hf ⟨⟨old, he⟩, hit, hne, hea⟩ ⟨xs, x, hq, hx⟩
    subst hP hw hK
    obtain ⟨its, rv, p, hz⟩ := I.tuple hq
    obtain ⟨u, hu, ru⟩ := rv.get hx
    have hel : e < s.heap.objs.size := Heap.lt_size he
    have hil : it < s.heap.objs.size := by obtain ⟨_, q, _⟩ := hit; exact Heap.lt_size q
    have hlt : i < its.toArray.size := by
      rw [List.size_toArray]
      exact (List.getElem?_eq_some_iff.mp hu).1
    have D := Draws.tuple (prog := X.prog) (w := X.w) (A := X.A.in1) (I.ok.hd hc) it a hai its.toArray
    refine wpAny_pyNext_enum_itemD D he ⟨hit, p⟩ hlt hne (by simp only [List.mem_cons, List.not_mem_nil, or_false, not_or]; exact ⟨hne, hea⟩) fun x' h' tk hP ho hs' hT hsz hk => ?_
    have e0 : x' = u := by
      rw [List.getElem?_toArray] at hP
      rw [hu] at hP; cases hP; rfl
    subst e0
    refine ⟨_, rfl, wpAny_letOwnedTupleGo_enum (s := { s with heap := h', toks := tk + 1 }) ho fun h'' he' sb => ?_⟩
    have hT2 : h''.get? s.heap.objs.size = some { cls := .type "tuple", data := .seq #[.int i tk, x'] } := (sb.2 _ (Nat.ne_of_gt hel)).trans hT
    have new : ObjOk X.prog X.w (upd H s.heap.objs.size (.tup [.int (i : Nat), x])) h'' s.heap.objs.size (.tup [.int (i : Nat), x]) :=
      ⟨by show 2 ≤ sizeLine; decide, [.int i tk, x'], .cons ⟨_, rfl⟩ (.cons ru .nil), ⟨_, hT2, rfl, _, rfl⟩⟩
    have I1 : Inv X pins σ (upd H s.heap.objs.size (.tup [.int (i : Nat), x])) { s with heap := h'', toks := tk + 1 } :=
      I.turnedNew (ch := [e, it]) (fun b ob hb q => by
        have hb1 : b ≠ e := fun z => hb (by simp [z])
        have hb2 : b ≠ it := fun z => hb (by simp [z])
        exact (sb.2 b hb1).trans (hk b ob hb1 hb2 q)) hf (Nat.le_refl _) new
    refine ⟨.ref s.heap.objs.size, _, I1, rfl, ⟨_, x, rfl, I.hok.fresh (Nat.le_refl _), rfl, fun ys hy => by rw [I.tuple_inj hy hq]; exact hx⟩, ⟨⟨x', ?_⟩, hs'.1.at fun o q => (sb.2 it (Ne.symm hne)).trans q, hne, hea⟩, fun b hb => ?_⟩
    · have e1 : ((i + 1 : Nat) : Int) = (i : Int) + 1 := by omega
      show IsEnum h'' e it ((i + 1 : Nat) : Int) x'
      rw [e1]; exact he'
    have hb' : b < s.heap.objs.size := by
      rcases (by simpa using hb : b = e ∨ b = it) with z | z
      · subst z; exact hel
      · subst z; exact hil
    rw [upd_ne (Nat.ne_of_lt hb')]
    exact (hf b hb).1
  done := by
    intro X hP hw hK hc i pins s σ H E I hf ⟨⟨old, he⟩, hit, hne, hea⟩ ⟨xs, hq, hx⟩
    subst hP hw hK
    obtain ⟨its, rv, p, hz⟩ := I.tuple hq
    obtain ⟨f0, f1, f2, f3, f4, f5⟩ := hf it (by simp)
    have hl := rv.length
    have hT : s.TypeIs (.ref e) "enumerate" := ⟨_, he, rfl⟩
    unfold pyNext
    refine wpAny_bind (wpAny_attempt (wpAny_callSpecial?_slot (name := Str.ofString "__next__") hT F.slot_enumerate_next (wpAny_call_entry F.slot_enumerate_next hT F.entry_enumerate_next ?_ (F.args_enumerate_next_1 _))))
    show wpAny _ _ (field (.ref e) 2 >>= _) _ _ _
    refine wpAny_bind (wpAny_field he rfl (x := .ref it) rfl ?_)
    refine wpAny_bind (wpAny_nextOf_tuple_end (I.ok.hd hc) hit p (by simp; omega) fun h' x hx1 hx2 => ?_)
    obtain ⟨o, ho, hc2⟩ := hx2
    refine wpAny_bind (wpAny_isInstance (T := "StopIteration") (b := true) ⟨o, ho, hc2⟩ isSubtype_stop ?_)
    exact wpAny_pure ⟨rfl, I.turned (t' := s.toks) (fun b o hb q => hx1 b o hb q) f0 f1 f3 f4 f5⟩
  self := fun A i s Q E ⟨⟨_, he⟩, _⟩ h => wpAny_pyIter_enum he h
set_option maxHeartbeats 8000000 in
theorem zyz {v : Value} {o : Obj} {S : Heap → Prop} (B : Begins v o S) :
    Meets (Builtin.«enumerate.__new__» ⟨[.type "enumerate", v], []⟩) (fun _ R s => S s.heap ∧
      R (.ok (.ret (.ref (s.heap.push o).objs.size))) { s with heap := (s.heap.push o).push { cls := .type "enumerate", data := .fields #[.none, .bool false, .ref s.heap.objs.size, rawInt 0, .none, .none] } }) :=
  .of_wp fun prog w A R s ⟨h1, h⟩ => by
    obtain ⟨hp, g, d, tk, os⟩ := s
    have hsub := sub_enumerate
    have q1 : ∀ {A' : Around} {E : Value → Shared → Prop} {Q : Value → Shared → Prop}, Q (.ref hp.objs.size) ⟨hp.push o, g, d, tk, os⟩ → wpAny (model prog w) A' (pyIter v) Q E ⟨hp, g, d, tk, os⟩ :=
      fun q => B.iter prog w _ _ ⟨hp, g, d, tk, os⟩ _ h1 q
    wp_walk using q1
    refine wpAny_stack_any fun st => wpAny_pure ?_
    split
    · rename_i c _ _ _ _ _
      cases (c == Value.type "enumerate")
      · wp_walk using q1
        exact ⟨_, rfl, h⟩
      · wp_walk using q1
        exact ⟨_, rfl, h⟩
    · wp_walk using q1
      exact ⟨_, rfl, h⟩
/-- enumerate(v) -/
theorem z0f {prog : Program} {w : World} {A : Around} {E : Value → Shared → Prop} {s : Shared} {v : Value} {o : Obj} {S : Heap → Prop} {Q : Value → Shared → Prop} (B : Begins v o S) (h1 : S s.heap)
    (h : ∀ h', IsEnum h' (s.heap.objs.size + 1) s.heap.objs.size 0 .none → h'.get? s.heap.objs.size = some o → (∀ b u, s.heap.get? b = some u → h'.get? b = some u) → Q (.ref (s.heap.objs.size + 1)) { s with heap := h' }) :
    wpAny (model prog w) A (call (.type "enumerate") [v]) Q E s := by
  refine callType_new F.called_enumerate (by decide) (F.typeCall_enumerate_1 _) (F.newCall_enumerate_1 _) (fun obj => F.args_object_init_2 obj _) F.entry_enumerate_new (zyz B) ⟨h1, ?_⟩
  have hz : (s.heap.push o).objs.size = s.heap.objs.size + 1 := Heap.size_push ..
  have he : IsEnum ((s.heap.push o).push { cls := .type "enumerate", data := .fields #[.none, .bool false, .ref s.heap.objs.size, rawInt 0, .none, .none] }) (s.heap.objs.size + 1) s.heap.objs.size 0 .none := by
    have q := Heap.get?_push_size (s.heap.push o) (o := { cls := .type "enumerate", data := .fields #[.none, .bool false, .ref s.heap.objs.size, rawInt 0, .none, .none] }) rfl
    rw [hz] at q; exact q
  show _ ∧ _
  rw [hz]
  exact ⟨⟨_, he, rfl⟩, h _ he (Heap.get?_push_of_some _ (Heap.get?_push_size _ B.free)) fun b u x => Heap.get?_push_of_some _ (Heap.get?_push_of_some _ x)⟩
section
variable {X : Cx}
theorem zzw [Bs] {e : Expr} {T : DTA} {p pos tpos : Pos} {elts : List Expr} {kk : Nat} (hm : X.mg "enumerate" = none) (ha : PAD X [e] T) (hg : Gl X "enumerate" := by rfl) (hs : starEach [e] X.env = [(false, eval e X.env)] := by rfl) :
    PID X (.Tuple elts kk tpos) (.Call (.Name "enumerate" p) [e] [] pos) (zyl T) := by
  refine ⟨fun pins s σ H R I ⟨η, G, P, hs', hr, t, k⟩ => ?_⟩
  refine Call_ (ld_blt I hg hm boot_enumerate (PyProof.Rows.callWith_type1 (thn (ha.run pos pins s σ H (fun vs H1 => ∃ ds G1, (match ds with
    | [d] => (match d with
      | .nd .tup xs => P (znx xs) zco G1
      | .nd .lst xs => P (znx xs) zco G1
      | .nd .scr xs => P (znx xs) zco G1
      | _ => False)
    | _ => False) ∧ Ext H G H1 G1 ∧ HR X.ml H1 G1 ∧ VRs X.ml H1 G1 ds vs) I ⟨η, G, _, hs', hr, t, fun ds G1 vs H1 p x r q => ⟨ds, G1, p, x, r, q⟩⟩) fun us s1 ⟨vs, H1, I1, r1, ds, G1, p, x, r, q⟩ => ?_) hs rfl))
  match ds, p, q with
  | [d], p, q =>
    obtain ⟨v, r', rfl, q1, q2⟩ := q.uncons
    cases q2.nil_of
    obtain ⟨u, rfl, ru⟩ := r1.one
    have fin2 : ∀ b, b ∈ [s1.heap.objs.size + 1, s1.heap.objs.size] → FpOk X pins H1 b := fun b hb => by
      have hle : s1.heap.objs.size ≤ b := by
        rcases (by simpa using hb : b = s1.heap.objs.size + 1 ∨ b = s1.heap.objs.size) with z | z <;> omega
      exact I1.fpOk hle (I1.hok.fresh hle)
    have doL : ∀ (a : Addr) (ws : List V) (xs : List D), v = .ref a → SqL X.K H1 a ws → (∀ H G, Ext H1 G1 H G → HR X.ml H G → ∃ vs, SqL X.K H a vs ∧ VRs X.ml H G xs vs) → P (znx xs) zco G1 →
        wpAny (model X.prog X.w) X.A (call (.type "enumerate") [u]) (fun v s1 => wpAny (model X.prog X.w) X.A (pyIter v) (PIE X pins σ (.Tuple elts kk tpos) R) X.xe s1) X.xe s1 := by
      intro a ws xs e hq hh p
      subst e
      cases ru
      obtain ⟨its, rv, p', hz⟩ := I1.list hq
      refine call_enumerate_list p'.isList fun h' he hit hsz hk => wpAny_pyIter_enum he ?_
      have I2 : Inv X pins σ H1 { s1 with heap := h' } := I1.kept (t' := s1.toks) hk
      exact ⟨s1.heap.objs.size + 1, [s1.heap.objs.size + 1, s1.heap.objs.size], _, _, H1, rfl, I2, turn_enum a (s1.heap.objs.size + 1) s1.heap.objs.size, ⟨⟨.none, he⟩, hit, Nat.succ_ne_self _⟩, fin2, k _ _ G1 _ H1 p x r (Ite.itD hh)⟩
    cases d with
    | nd kd xs =>
      rw [VR] at q1
      obtain ⟨a, ws, e, hq, vr⟩ := q1
      cases kd with
      | tup =>
        subst e
        cases ru
        obtain ⟨its, rv, p', hz⟩ := I1.tuple hq
        have p2 : s1.heap.IsTuple a its.toArray := p'
        have hal : a < s1.heap.objs.size := by obtain ⟨_, z, _⟩ := p2; exact Heap.lt_size z
        refine z0f (begins_tuple a its.toArray) p2 fun h' he hit hk => wpAny_pyIter_enum he ?_
        have I2 : Inv X pins σ H1 { s1 with heap := h' } := I1.kept (t' := s1.toks) hk
        exact ⟨s1.heap.objs.size + 1, [s1.heap.objs.size + 1, s1.heap.objs.size], _, _, H1, rfl, I2, z0j a (s1.heap.objs.size + 1) s1.heap.objs.size (Nat.ne_of_lt hal), ⟨⟨.none, he⟩, ⟨_, hit, rfl, rfl⟩, Nat.succ_ne_self _, Nat.ne_of_gt (Nat.lt_succ_of_lt hal)⟩, fin2,
          k _ _ G1 _ H1 p x r (IteT.itD fun H' G' x' r' => ⟨ws, Held.ext (k := .tup) r x' hq, vr.ext r x'⟩)⟩
      | lst => exact doL a ws xs e (zci hq (.inl rfl)) (fun H' G' x' r' => ⟨ws, zci (hq.ext r x') (.inl rfl), vr.ext r x'⟩) p
      | scr => exact doL a ws xs e (zci hq (.inr rfl)) (fun H' G' x' r' => ⟨ws, zci (hq.ext r x') (.inr rfl), vr.ext r x'⟩) p
      | _ => exact p.elim
    | _ => exact p.elim
  | [], p, _ => exact p.elim
  | _ :: _ :: _, p, _ => exact p.elim
end
end DL
namespace DL
open PySem PySem.Spec PyProof.Rows L2
end DL
namespace DL
open PySem PySem.Spec PyProof.Rows L2
def zipL (xs ys : List D) : List D := List.zipWith (fun a b => D.nd .tup [a, b]) xs ys
def z2v (T : DTA) : DTI := fun η G R => T η G fun ds G1 => match ds with
  | [.nd .tup xs, .nd .tup ys] => R (zipL xs ys) zco G1
  | [.nd .lst xs, .nd .lst ys] => R (zipL xs ys) zco G1
  | _ => False
theorem zsi {xs ys : List D} {i : Nat} {d : D} (h : (zipL xs ys)[i]? = some d) : ∃ x y, xs[i]? = some x ∧ ys[i]? = some y ∧ d = .nd .tup [x, y] := by
  unfold zipL at h
  rw [List.getElem?_zipWith] at h
  cases e1 : xs[i]? with
  | none => rw [e1] at h; cases h
  | some x =>
    cases e2 : ys[i]? with
    | none => rw [e1, e2] at h; cases h
    | some y => rw [e1, e2] at h; cases h; exact ⟨x, y, rfl, rfl, rfl⟩
theorem zpp {xs ys : List D} {i : Nat} (h : (zipL xs ys).length ≤ i) : xs.length ≤ i ∨ ys.length ≤ i := by
  unfold zipL at h
  rw [List.length_zipWith] at h
  omega
theorem ItzT.itD {K : Ml} {H1 : Hp} {G1 : DHp} {a b : Addr} {xs ys : List D} (h : ∀ H G, Ext H1 G1 H G → HR K H G → ∃ vs ws, SqT K.K H a vs ∧ SqT K.K H b ws ∧ VRs K H G xs vs ∧ VRs K H G ys ws) : ItD K H1 G1 (RZ.ItzT K.K a b) (zipL xs ys) zco := by
  intro i H G x r o
  obtain ⟨vs, ws, qa, qb, va, vb⟩ := h H G x r
  refine ⟨fun d e => ?_, fun l => ⟨vs, ws, qa, qb, by rw [va.length, vb.length]; exact zpp l⟩⟩
  obtain ⟨p, q, e1, e2, rfl⟩ := zsi e
  obtain ⟨u, g1, r1⟩ := va.get e1
  obtain ⟨u2, g2, r2⟩ := vb.get e2
  refine ⟨⟨vs, ws, u, u2, qa, qb, g1, g2⟩, fun y H' ⟨T, z1, z2, e3, hT, e5, k1, k2⟩ => ?_⟩
  subst e3 e5
  have e6 := k1 vs qa
  have e7 := k2 ws qb
  rw [g1] at e6; cases e6
  rw [g2] at e7; cases e7
  have x2 : Ext H G (upd H T (.tup [u, u2])) G := .laid hT
  refine ⟨x2, r.laid hT, ?_⟩
  rw [VR]
  exact ⟨T, _, rfl, .inl (.inl upd_same), .cons (r1.ext r x2) (.cons (r2.ext r x2) .nil)⟩
theorem Itz.itD {K : Ml} {H1 : Hp} {G1 : DHp} {a b : Addr} {xs ys : List D} (h : ∀ H G, Ext H1 G1 H G → HR K H G → ∃ vs ws, SqL K.K H a vs ∧ SqL K.K H b ws ∧ VRs K H G xs vs ∧ VRs K H G ys ws) : ItD K H1 G1 (Itz K.K a b) (zipL xs ys) zco := by
  intro i H G x r o
  obtain ⟨vs, ws, qa, qb, va, vb⟩ := h H G x r
  refine ⟨fun d e => ?_, fun l => ⟨vs, ws, qa, qb, by rw [va.length, vb.length]; exact zpp l⟩⟩
  obtain ⟨p, q, e1, e2, rfl⟩ := zsi e
  obtain ⟨u, g1, r1⟩ := va.get e1
  obtain ⟨u2, g2, r2⟩ := vb.get e2
  refine ⟨⟨vs, ws, u, u2, qa, qb, g1, g2⟩, fun y H' ⟨T, z1, z2, e3, hT, e5, k1, k2⟩ => ?_⟩
  subst e3 e5
  have e6 := k1 vs qa
  have e7 := k2 ws qb
  rw [g1] at e6; cases e6
  rw [g2] at e7; cases e7
  have x2 : Ext H G (upd H T (.tup [u, u2])) G := .laid hT
  refine ⟨x2, r.laid hT, ?_⟩
  rw [VR]
  exact ⟨T, _, rfl, .inl (.inl upd_same), .cons (r1.ext r x2) (.cons (r2.ext r x2) .nil)⟩
section
variable {X : Cx}
theorem z24 [Bs] {e e2 : Expr} {T : DTA} {p pos tpos : Pos} {elts : List Expr} {kk : Nat} (hm : X.mg "zip" = none) (ha : PAD X [e, e2] T) (hg : Gl X "zip" := by rfl)
    (hs : starEach [e, e2] X.env = (false, eval e X.env) :: starEach [e2] X.env := by rfl) (hpl : (backTo pos (starEach [e2] X.env)).any (·.1) = false := by rfl) :
    PID X (.Tuple elts kk tpos) (.Call (.Name "zip" p) [e, e2] [] pos) (z2v T) := by
  refine ⟨fun pins s σ H R I ⟨η, G, P, hs', hr, t, k⟩ => (RZ.pi_zipA hg hm ha hs hpl).run pins s σ H R I ⟨η, G, _, hs', hr, t, fun ds G1 vs H1 p x r q => ?_⟩⟩
  split at p
  · rename_i xs ys
    obtain ⟨v1, r1, rfl, a1, q1⟩ := q.uncons
    obtain ⟨v2, r2, rfl, a2, q2⟩ := q1.uncons
    cases q2.nil_of
    rw [VR] at a1 a2
    obtain ⟨a, ws, rfl, ha, va⟩ := a1
    obtain ⟨b, us, rfl, hb, vb⟩ := a2
    exact ⟨a, b, ws, us, rfl, .inr ⟨ha, hb, k _ _ G1 _ H1 p x r (ItzT.itD fun H' G' x' r' => ⟨ws, us, Held.ext (k := .tup) r x' ha, Held.ext (k := .tup) r x' hb, va.ext r x', vb.ext r x'⟩)⟩⟩
  · rename_i xs ys
    obtain ⟨v1, r1, rfl, a1, q1⟩ := q.uncons
    obtain ⟨v2, r2, rfl, a2, q2⟩ := q1.uncons
    cases q2.nil_of
    rw [VR] at a1 a2
    obtain ⟨a, ws, rfl, ha, va⟩ := a1
    obtain ⟨b, us, rfl, hb, vb⟩ := a2
    exact ⟨a, b, ws, us, rfl, .inl ⟨zci ha (.inl rfl), zci hb (.inl rfl), k _ _ G1 _ H1 p x r (Itz.itD fun H' G' x' r' => ⟨ws, us, zci (ha.ext r x') (.inl rfl), zci (hb.ext r x') (.inl rfl), va.ext r x', vb.ext r x'⟩)⟩⟩
  · exact p.elim
end
end DL
namespace DL
open PySem PySem.Spec PyProof.Rows L2
/-- the table of the built-in types, and of the classes cs by themselves -/
def zlg (cs : List Addr) : Value → Value → Option Bool := fun t u => match t, u with
  | .type a, .type b => tyIs a b
  | .ref C, .ref B => if C = B ∧ C ∈ cs then some true else none
  | _, _ => none
theorem zz8 {K : PySem.W.Frag} {cs : List Addr} (h : ∀ C ∈ cs, IsC K C) : z2t K (zlg cs) := by
  intro t u b e
  cases t with
  | type a =>
    cases u with
    | type c => exact ⟨z0p e, fun C z => nomatch z⟩
    | _ => cases e
  | ref C =>
    cases u with
    | ref B =>
      have e : (if C = B ∧ C ∈ cs then some true else none) = some b := e
      by_cases q : C = B ∧ C ∈ cs
      · rw [if_pos q] at e
        cases e
        obtain ⟨rfl, hC⟩ := q
        refine ⟨?_, fun C' z => by cases z; exact h _ hC⟩
        unfold PySem.W.kitOne
        rw [if_pos (by simp)]
      · rw [if_neg q] at e; cases e
    | _ => cases e
  | _ => cases u <;> cases e
section
variable {cs : List Addr} {G : DHp} {Q : DVK}
theorem zu0 {i : Int} : (dIsi (zlg cs)) [.int i, .ty "int"] G Q ↔ Q (.bl true) G := Iff.rfl
theorem zs6 {i : Int} : (dIsi (zlg cs)) [.int i, .ty "bool"] G Q ↔ Q (.bl false) G := Iff.rfl
theorem zeo {ds : List D} : (dIsi (zlg cs)) [.nd .tup ds, .ty "tuple"] G Q ↔ Q (.bl true) G := Iff.rfl
theorem zkp {C : Addr} {ns : List Str} {ds : List D} (h : C ∈ cs) : (dIsi (zlg cs)) [.nd (.ins C ns) ds, .ref C] G Q ↔ Q (.bl true) G := by
  show (match (if C = C ∧ C ∈ cs then some true else none) with | some b => Q (.bl b) G | none => False) ↔ _
  rw [if_pos ⟨rfl, h⟩]
end
def z2u (i j l : Nat) (T : DTA) : DTS := fun F η G => T η G fun ds G1 => match ds with
  | [d, e, f] => F.nx (((η.set i (some d)).set j (some e)).set l (some f)) G1
  | _ => False
section
variable {X : Cx}
theorem z0c [Bs] {i j l : Nat} {x y z : Str} {a b c : Expr} {T : DTA} {px py pz pt pos : Pos} {kt k2 pt2} (hc : X.calm = true) (hN : X.N.Nodup) (hi : X.N[i]? = some x) (hj : X.N[j]? = some y) (hl : X.N[l]? = some z) (hij : i ≠ j) (hil : i ≠ l) (hjl : j ≠ l)
    (hx : X.env.scope.names.lookup x = some .local) (hy : X.env.scope.names.lookup y = some .local) (hz : X.env.scope.names.lookup z = some .local) (ha : PAD X [a, b, c] T)
    (hw : swappedStores [.Tuple [.Name x px, .Name y py, .Name z pz] kt pt] (.Tuple [a, b, c] k2 pt2) X.env = pure (some [x, y, z])) (hs : swapsWithSole [.Tuple [.Name x px, .Name y py, .Name z pz] kt pt] (.Tuple [a, b, c] k2 pt2) pos.line X.env = pure false := by rfl) :
    PSD X (.Assign [.Tuple [.Name x px, .Name y py, .Name z pz] kt pt] (.Tuple [a, b, c] k2 pt2) pos) (z2u i j l T) :=
  PS.impI (ps_par3 hc hN hi hj hl hij hil hjl hx hy hz ha hw hs) fun _ _ σ H E _ ⟨η, G, F, hs, hr, t, k⟩ => ⟨η, G, _, hs, hr, t, fun ds G1 vs H1 p1 x1 r1 q1 => by
    match ds, p1, q1 with
    | [d, e, f], p1, q1 =>
      obtain ⟨v, r, rfl, a1, q2⟩ := q1.uncons
      obtain ⟨w, r', rfl, a2, q3⟩ := q2.uncons
      obtain ⟨u, r'', rfl, a3, q4⟩ := q3.uncons
      rw [q4.nil_of]
      exact ⟨v, w, u, rfl, k.nx _ G1 _ H1 p1 x1 ((((hs.ext hr x1).set i a1).set j a2).set l a3) r1⟩
    | [], p1, _ => exact p1.elim
    | [_], p1, _ => exact p1.elim
    | [_, _], p1, _ => exact p1.elim
    | _ :: _ :: _ :: _ :: _, p1, _ => exact p1.elim⟩
end
end DL
namespace DL
open PySem PySem.Spec PyProof.Rows L2
end DL
namespace DL
open PySem PySem.Spec PyProof.Rows L2
/-- the lists that stand in a list, each changed no more -/
def frL : List D → DHp → Option (List D × DHp)
  | [], G => some ([], G)
  | d :: ds, G => match d with
    | .ref p => (match G p with
      | some (.lst es) => (match frL ds (dl G p) with
        | some (x, G') => some (.nd .lst es :: x, G')
        | none => none)
      | _ => none)
    | _ => none
end DL
namespace DL
open PySem PySem.Spec PyProof.Rows L2
/-- what else is tracked, then the draws -/
abbrev Gw (G : DHp) (a : Addr) (ns : List Int) (c : Int) : DHp := up G a (drw ns c)
theorem zxo {G : DHp} {a p : Addr} {ns : List Int} {c : Int} {o : DO} (h : Gw G a ns c p = none) : up (Gw G a ns c) p o = Gw (up G p o) a ns c ∧ a ≠ p := by
  have hn : a ≠ p := fun e => by
    subst e
    rw [show Gw G a ns c a = some (drw ns c) from zt] at h
    cases h
  exact ⟨(zvj hn), hn⟩
theorem zv0 {G : DHp} {a p : Addr} {ns : List Int} {c : Int} (hn : a ≠ p) (h : Gw G a ns c p = none) : G p = none := by
  rw [show Gw G a ns c p = G p from zvr (Ne.symm hn)] at h
  exact h
theorem z3y {G : DHp} {a p : Addr} {ns : List Int} {c : Int} {o : DO} (hn : a ≠ p) (h : G p = none) : dl (Gw (up G p o) a ns c) p = Gw G a ns c := by
  show dl (up (up G p o) a _) p = _
  rw [zz3 hn, ze1 h]
theorem zxd {G : DHp} {a p : Addr} {ns : List Int} {c : Int} {o o' : DO} (hn : a ≠ p) : up (Gw (up G p o) a ns c) p o' = Gw (up G p o') a ns c := by
  show up (up (up G p o) a _) p o' = _
  rw [zvj (a := a) (b := p) hn, ze5]
theorem zmi {G : DHp} {a p : Addr} {ns : List Int} {c : Int} {o : DO} (hn : a ≠ p) : Gw (up G p o) a ns c p = some o := by
  show up (up G p o) a _ p = _
  rw [zvr (Ne.symm hn), zt]
theorem zb6 {G : DHp} {a : Addr} {ns : List Int} {c n : Int} {Q : DVK} (hn : 0 < n) (hl : ns.length ≤ 63) (q : ∀ r : Int, 0 ≤ r → r < n → Q (.int r) (Gw G a ns (c + 1))) : zp [.ref a, .int n] (Gw G a ns c) Q :=
  zzv hn hl zt fun r h0 h1 => by rw [ze5]; exact q r h0 h1
theorem zp2 {x y : D} {xs ys : List D} {G : DHp} {Q : DVK} (h1 : der x G = .nd .lst xs) (h2 : der y G = .nd .lst ys) (hl : xs.length + ys.length ≤ sizeLine) (q : Q (.nd .lst (xs ++ ys)) G) : dAdd x y G Q := by
  unfold dAdd
  rw [h1, h2]
  exact ⟨hl, q⟩
theorem zzc {n : Nat} (h : n ≤ 1000000) : n ≤ sizeLine := Nat.le_of_lt (zes h)
theorem zl1 {d : D} {ds : List D} {G : DHp} {Q : DVK} (h : sqD d G = some ds) : zll [d] G Q = Q (.nd .tup ds) G := by
  unfold zll d1
  simp only [h]
theorem zie {ds : List D} {i : Int} {d : D} {G : DHp} {Q : DVK} (h0 : 0 ≤ i) (e : ds[i.toNat]? = some d) (q : Q d G) : dIx (.nd .tup ds) (.int i) G Q := by
  show atD ds (.int i) fun d => Q d G
  exact znz h0 e q
theorem zsk {α : Type} {l : List α} {i : Nat} {x : α} (h : l[i]? = some x) : l.take (i + 1) = l.take i ++ [x] := by
  rw [List.take_add_one, h]; rfl
theorem zxf {α : Type} {f : α → D} {xs : List α} {G : DHp} {Q : DVK} : dLen [eT f xs] G Q = Q (.int xs.length) G := by
  rw [zu7 (ds := xs.map f) rfl, List.length_map]
end DL
namespace DL
open PySem PySem.Spec PyProof.Rows L2
end DL
namespace DL
open PySem PySem.Spec PyProof.Rows L2
/-- [y for x in xs if ..]: what is told of one x, pure, is told of all -/
theorem z3u {wi : DTI} {g : DTG} {tt : DTT} {te : DTE} {own : List Nat} {η : DSt} {G : DHp} {Q : DVK} {α : Type} {xs : List α} {f : α → D} (fb : α → Bool) (h : α → D) (hl : xs.length ≤ 1000000)
    (hw : ∀ R, R (xs.map f) zco G → wi η G R)
    (hb : ∀ x ∈ xs, ∀ (G1 : DHp) (A : DVK) (B : DHp → Prop), (fb x = true → A (h x) G1) → (fb x = false → B G1) → g (f x) (zks η own) G1 fun η2 G2 => tt η2 G2 fun b G3 => if b = true then te η2 G3 A else B G3)
    (q : ∀ p, G p = none → Q (.ref p) (up G p (.lst ((xs.filter fb).map h)))) : dLc wi g tt te own η G Q := by
  refine hw _ ?_
  intro p hp
  refine ⟨fun i acc G' => acc = ((xs.take i).filter fb).map h ∧ G' = up G p (.lst acc), ⟨rfl, rfl⟩, ?_, ?_, ?_⟩
  · rintro i acc G' ⟨rfl, rfl⟩
    exact ⟨trivial, zt⟩
  · rintro i d acc G' hd ⟨rfl, rfl⟩
    obtain ⟨x, hx, rfl⟩ := zhp hd
    refine hb x (List.mem_of_getElem? hx) _ _ _ (fun e => ⟨zes ?_, zt, ?_, by rw [ze5]⟩) fun e => ⟨?_, rfl⟩
    · rw [List.length_map]
      refine Nat.le_trans (List.length_filter_le _ _) ?_
      rw [List.length_take]
      omega
    · rw [zsk hx, List.filter_append, List.map_append]
      simp [e]
    · rw [zsk hx, List.filter_append, List.map_append]
      simp [e]
  · rintro acc G' ⟨rfl, rfl⟩
    rw [List.length_map, List.take_length]
    exact q p hp
/-- [y for x in xs] -/
theorem zkk {wi : DTI} {g : DTG} {te : DTE} {own : List Nat} {η : DSt} {G : DHp} {Q : DVK} {α : Type} {xs : List α} {f : α → D} (h : α → D) (hl : xs.length ≤ 1000000)
    (hw : ∀ R, R (xs.map f) zco G → wi η G R)
    (hb : ∀ x ∈ xs, ∀ (G1 : DHp) (A : DVK), A (h x) G1 → g (f x) (zks η own) G1 fun η2 G2 => te η2 G2 A)
    (q : ∀ p, G p = none → Q (.ref p) (up G p (.lst (xs.map h)))) : dLc wi g dYes te own η G Q := by
  refine z3u (f := f) (fun _ => true) h hl hw (fun x hx G1 A B a _ => ?_) fun p hp => ?_
  · have := hb x hx G1 A (a rfl)
    simpa only [dYes, if_true] using this
  · have := q p hp
    rwa [List.filter_eq_self.mpr fun _ _ => rfl]
theorem zk1 {α : Type} {xs : List α} {b : α → Bool} {G : DHp} {Q : DVK} (q : Q (.bl (xs.all b)) G) : dAll [.nd .lst (xs.map fun x => .bl (b x))] G Q := by
  refine ⟨xs.map b, ?_, ?_⟩
  · show some _ = some _
    rw [List.map_map]; rfl
  · rw [List.all_map]; exact q
theorem z2y {α : Type} {xs : List α} {b : α → Bool} {G : DHp} {Q : DVK} (q : Q (.bl (xs.any b)) G) : dAny [.nd .lst (xs.map fun x => .bl (b x))] G Q := by
  refine ⟨xs.map b, ?_, ?_⟩
  · show some _ = some _
    rw [List.map_map]; rfl
  · rw [List.any_map]; exact q
theorem zz7 (ds : List D) (k : Nat) : cutD ds (some (k : Int)) none = ds.drop k := by
  unfold cutD
  rw [HT.sIx_nat, HT.sIx_none]
  by_cases h : k ≤ ds.length
  · rw [Nat.min_eq_left h, List.take_of_length_le (by rw [List.length_drop]; exact Nat.le_refl _)]
  · rw [Nat.min_eq_right (by omega), List.drop_eq_nil_of_le (Nat.le_refl _), List.drop_eq_nil_of_le (by omega), List.take_nil]
end DL
namespace DL
open PySem PySem.Spec PyProof.Rows L2
end DL
namespace DL
open PySem PySem.Spec PyProof.Rows L2
end DL
namespace DL
open PySem PySem.Spec PyProof.Rows L2
end DL
namespace DL
open PySem PySem.Spec PyProof.Rows L2
section
variable {X : Cx}
theorem zyd {K : Ml} {H : Hp} {G : DHp} : ∀ {ds : List D} {vs : List V}, VRs K H G ds vs → VRs K H G ds.reverse vs.reverse
  | [], vs, h => by rw [h.nil_of]; exact .nil
  | d :: ds, vs, h => by
    obtain ⟨v, r, rfl, q, t⟩ := h.uncons
    rw [List.reverse_cons, List.reverse_cons]
    exact (zyd t).append (.cons q .nil)
end
end DL
namespace DL
open PySem PySem.Spec PyProof.Rows L2
end DL
namespace DL
open PySem PySem.Spec PyProof.Rows L2
end DL
namespace DL
open PySem PySem.Spec PyProof.Rows L2
end DL
namespace DL
open PySem PySem.Spec PyProof.Rows L2
end DL
namespace DL
open PySem PySem.Spec PyProof.Rows L2
end DL
namespace DL
open PySem PySem.Spec PyProof.Rows L2
section
variable {X : Cx}
def zrr : DRn := d1 fun d G Q => match d with
  | .nd .tup ds => (plainDs ds = true ∧ PySem.W.AllAlike (ds.map py) ∧ PySem.W.Sortable (ds.map py) ∧ ∀ d ∈ ds, (py d).depth ≤ 60) ∧ ∀ p, G p = none → Q (.ref p) (up G p (.lst (srt ds)))
  | _ => False
theorem zw9 (hu : X.A.units + 64 < cLine) : zms X (.builtin "sorted") zrr := zqc fun pins s σ H G x v d P I rx hr q1 t => by
  split at t
  · rename_i ds
    obtain ⟨⟨p1, p2, p3, p4⟩, t⟩ := t
    rw [VR] at q1
    obtain ⟨a, vs, rfl, hq, r⟩ := q1
    cases (show v = Value.ref a from rx)
    obtain ⟨its, rv, pl, hz⟩ := I.tuple hq
    obtain ⟨⟨cls, dd, data, sl⟩, ho0, hc0, n, hd0⟩ := id pl
    simp only at hc0 hd0
    subst hc0 hd0
    have hlen : its.length ≤ sizeLine := by rw [← rv.length]; exact hz
    refine Calls.call_function_entry PyProof.Rows.kind_sorted PyProof.Rows.plain_sorted PyProof.Rows.entry_sorted (PyProof.Rows.args_sorted1 _) ?_
    unfold Builtin.«sorted»
    refine wpAny_bind (m := checkCount "sorted" 1 1 _) (wpAny_pure ?_)
    refine wpAny_bind (wpAny_collect_seq (A := X.A.in1) a (.inr rfl) ho0 rfl rfl (fun h' hk => ?_) (by rw [List.size_toArray]; exact hlen))
    have I1 : Inv X pins σ H { s with heap := h' } := I.kept (t' := s.toks) hk
    refine wpAny_bind (wpAny_newList ?_ (by simpa using hlen))
    have hoL : (h'.push (seqObj "list" its.toArray 0)).get? h'.objs.size = some (seqObj "list" its.toArray 0) := Heap.get?_push_size _ rfl
    show wpAny _ _ _ _ _ { s with heap := h'.push (seqObj "list" its.toArray 0) }
    have er : PySem.W.EachIs (fun v b => ∃ rs, Reads (h'.push (seqObj "list" its.toArray 0)) v (py b) rs ∧ h'.objs.size ∉ rs) its ds := (znt I1 r rv p1).mono fun u b ⟨l, rd⟩ => ⟨l, PyProof.Rows.Reads.keeps (fun b o q => Heap.get?_push_of_some _ q) rd, fun hm => by
      obtain ⟨o, ho⟩ := PyProof.On.reads_mem_get rd _ hm
      exact absurd (Heap.lt_size ho) (Nat.lt_irrefl _)⟩
    have hlen2 : ds.length ≤ sizeLine := by rw [← r.length]; exact hz
    refine wpAny_bind (wpAny_holding (PySem.W.list_sort_data (s := { s with heap := h'.push (seqObj "list" its.toArray 0) }) (R := fun u d => ∃ v, RelV v u ∧ VR X.ml H G d v) (enc := py) (bs := ds) hoL (zur r rv) er p2 p3 hlen2 (fun b hb => by have := p4 b hb; show X.A.units + 1 + 1 + _ < _; omega) fun out ho eo => ?_))
    obtain ⟨ws, rw', qs'⟩ := zmh eo
    obtain ⟨e', he'⟩ := PyProof.Rows.sortedHeap_at (vs := its) (out := List.toArray out) hoL
    have hp : H h'.objs.size = none := I1.hok.fresh (Nat.le_refl _)
    have x3 : Ext H G (upd H h'.objs.size (.lst ws)) (up G h'.objs.size (.lst (srt ds))) := .new hp
    refine wpAny_pure ⟨_, rfl, .ref h'.objs.size, .ref h'.objs.size, upd H h'.objs.size (.lst ws), _, I1.laid (t' := s.toks) (fun b u e => ?_) (Nat.le_refl _)
      (show ObjOk X.prog X.w _ _ _ (.lst ws) from ⟨by rw [rw'.length, ho]; exact hlen2, out, e', rw', he'⟩), rfl, t _ (hr.free hp), x3, hr.new hp ⟨ws, upd_same, qs'.ext hr x3⟩, by rw [VR]⟩
    have hb : b < h'.objs.size := Heap.lt_size e
    rw [PyProof.Rows.sortedHeap_old (Nat.ne_of_lt hb) (by rw [size_push']; exact Nat.lt_succ_of_lt hb)]
    exact Heap.get?_push_of_some _ e
  · exact t.elim
end
end DL
namespace DL
open PySem PySem.Spec PyProof.Rows L2
end DL
namespace DL
open PySem PySem.Spec PyProof.Rows L2
end DL
namespace DL
open PySem PySem.Spec PyProof.Rows L2
end DL
namespace DL
open PySem PySem.Spec PyProof.Rows L2
theorem zno {x : Str} (h : PyData.strOk x = true) : SeqAt.shaped (.str x) = true := by
  unfold SeqAt.shaped
  rw [PyData.canLay0, h, PyData.depth]
  rfl
theorem zak {x y : Str} {G : DHp} {Q : DVK} (hx : PyData.strOk x = true) (hy : PyData.strOk y = true) (b : Bool) (hb : (x == y) = b) (q : Q (.bl b) G) : dEq (.str x) (.str y) G Q := by
  refine ⟨⟨rfl, rfl, ?_, ?_⟩, ?_⟩
  · show SeqAt.shaped (py (.str x)) = true
    rw [py]; exact zno hx
  · show SeqAt.shaped (py (.str y)) = true
    rw [py]; exact zno hy
  · show Q (.bl (PyData.eqv (py (.str x)) (py (.str y)))) G
    rw [py, py, PyData.eqv, hb]
    exact q
theorem zpu {neg : Bool} {x a b : Str} {G : DHp} {Q : DVK} (hx : PyData.strOk x = true) (ha : PyData.strOk a = true) (hb : PyData.strOk b = true) (r : Bool) (hr : (a == x || b == x) = r) (q : Q (.bl (neg != r)) G) : dIn neg (.str x) (.nd .tup [.str a, .str b]) G Q := by
  refine ⟨⟨rfl, rfl, ?_, ?_⟩, ?_⟩
  · show SeqAt.shaped (py (.str x)) = true
    rw [py]; exact zno hx
  · simp only [pys, py, PyData.canLayAll0, PyData.canLay0, ha, hb, Bool.and_self]
  · have e : ((pys [D.str a, D.str b]).any fun z => PyData.eqv z (py (.str x))) = r := by
      simp only [pys, py, List.any_cons, List.any_nil, PyData.eqv, Bool.or_false]
      exact hr
    rw [e]
    exact q
end DL
namespace DL
open PySem PySem.Spec PyProof.Rows L2
section
variable {K : Ml} {H H' : Hp} {G : DHp}
theorem zk9 (e : L2.Ext H H') : DL.Ext H G H' G := ⟨fun a u h n => ⟨e a u h, n⟩⟩
theorem HR.grow (hr : HR K H G) (e : L2.Ext H H') : HR K H' G := fun a o h => by
  obtain ⟨u, hu⟩ := (hr a o h).some
  exact OR.ext hr (zk9 e) (by rw [e a u hu, hu]) (hr a o h)
end
/-- trees that are compared: flat things, tuples of such, instances that P tells -/
def SmT (P : D → Prop) : Nat → D → Prop
  | 0, d => d = .non ∨ (∃ i, d = .int i) ∨ ∃ x, d = .str x
  | n + 1, d => SmT P n d ∨ (∃ ds, d = .nd .tup ds ∧ ∀ e ∈ ds, SmT P n e) ∨ P d
def DSm (K : Ml) (P : D → Prop) (n : Nat) : Eqv := fun x y H => ∃ G d, HR K H G ∧ VR K H G d x ∧ VR K H G d y ∧ SmT P n d
theorem zww {K : Ml} {P : D → Prop} {n : Nat} : Mon (DSm K P n) := fun x y H H' e ⟨G, d, hr, q1, q2, t⟩ => ⟨G, d, hr.grow e, q1.ext hr (zk9 e), q2.ext hr (zk9 e), t⟩
/-- a class with an own ==, that says True of the same tree -/
structure EqC (X : Cx) (m : Nat) (C : Addr) (P : D → Prop) : Prop where
  own : ∃ f fd ps sp, FnD X.prog X.w X.K X.mg X.base m f fd ps sp ∧ (∀ d G (Q : DVK), P d → Q (.bl true) G → sp [d, d] G Q) ∧ Meth X.K C "__eq__" f ∧ Binds X.K fd ps []
  ins : ∀ d, P d → ∃ fs ds, d = .nd (.ins C fs) ds
section
variable {X : Cx} {m : Nat} {C : Addr} {P : D → Prop}
theorem zrs {K : Ml} {H : Hp} {G : DHp} {n : Nat} (hr : HR K H G) : ∀ {ds : List D} {vs ws : List V}, VRs K H G ds vs → VRs K H G ds ws → (∀ e ∈ ds, SmT P n e) → Prs (DSm K P n) vs ws H
  | [], vs, ws, r1, r2, _ => by rw [VRs.nil_of r1, VRs.nil_of r2]; exact .nil
  | d :: ds, vs, ws, r1, r2, h => by
    obtain ⟨v, vs', rfl, q1, r1⟩ := r1.uncons
    obtain ⟨w, ws', rfl, q2, r2⟩ := r2.uncons
    exact Prs.cons ⟨G, d, hr, q1, q2, h d (by simp)⟩ (zrs hr r1 r2 fun e he => h e (by simp [he]))
def noG : DHp := fun _ => none
theorem HR.none_ {K : Ml} {H : Hp} : HR K H noG := fun a o h => by cases h
theorem Held.loose {K : Ml} {H : Hp} {G : DHp} {k : Kd} {a : Addr} {vs : List V} (h : Held K H G k a vs) : Held K H noG k a vs := by
  cases k with
  | tup => exact h
  | lst => exact ⟨rfl, h.2⟩
  | scr => exact h
  | ins C fs => exact ⟨rfl, h.2⟩
  | dK ks => exact h
  | dN ks => exact ⟨rfl, h.2⟩
mutual
theorem VR.loose {K : Ml} {H : Hp} {G : DHp} : ∀ {d : D} {v : V}, VR K H G d v → VR K H noG d v
  | .non, v, h => by rw [VR] at h ⊢; exact h
  | .bl b, v, h => by rw [VR] at h ⊢; exact h
  | .int i, v, h => by rw [VR] at h ⊢; exact h
  | .str x, v, h => by rw [VR] at h ⊢; exact h
  | .ty n, v, h => by rw [VR] at h ⊢; exact h
  | .ref a, v, h => by rw [VR] at h ⊢; exact h
  | .nd k ds, v, h => by
    rw [VR] at h ⊢
    obtain ⟨a, vs, e, hh, r⟩ := h
    exact ⟨a, vs, e, hh.loose, VRs.loose r⟩
theorem VRs.loose {K : Ml} {H : Hp} {G : DHp} : ∀ {ds : List D} {vs : List V}, VRs K H G ds vs → VRs K H noG ds vs
  | [], vs, h => by rw [VRs] at h ⊢; exact h
  | d :: ds, vs, h => by
    rw [VRs] at h ⊢
    obtain ⟨v, r, e, q, t⟩ := h
    exact ⟨v, r, e, VR.loose q, VRs.loose t⟩
end
def RSm (K : Ml) (P : D → Prop) (a b : Addr) (H : Hp) : Prop := ∃ d, VR K H noG d (.ref a) ∧ VR K H noG d (.ref b) ∧ P d
theorem zy5 (hc : EqC X m C P) : EqG X m (DIns C (RSm X.ml P)) := by
  obtain ⟨f, fd, ps, sp, F, hsp, me, hb⟩ := hc.own
  have F' : FnOk X.prog X.w X.K X.mg X.base CX0 m f fd ps (spEq (RSm X.ml P)) := F.imp fun vs H Q E ⟨a, b, e, ⟨d, q1, q2, p⟩, k⟩ => by
    subst e
    exact ⟨[d, d], noG, fun x G' => x = .bl true, .cons q1 (.cons q2 .nil), .none_, hsp d noG _ p rfl, fun x G' v H' e1 xx rr qq => by
      subst e1
      rw [VR] at qq
      subst qq
      exact k H' fun a o h => (xx.ex a o h rfl).1⟩
  exact eqG_ins (E := fun _ _ _ => False) F' me.at_ me.fn hb zxk
theorem zv4 {K : Ml} {H : Hp} {G : DHp} {d : D} {x y : V} (t : d = .non ∨ (∃ i, d = .int i) ∨ ∃ z, d = .str z) (q1 : VR K H G d x) (q2 : VR K H G d y) : DFlat x y H := by
  rcases t with rfl | ⟨i, rfl⟩ | ⟨z, rfl⟩
  · rw [VR] at q1 q2; subst q1 q2; exact ⟨rfl, rfl, rfl⟩
  · rw [VR] at q1 q2; subst q1 q2; exact ⟨rfl, rfl, by simp [eqV]⟩
  · rw [VR] at q1 q2; subst q1 q2; exact ⟨rfl, rfl, by simp [eqV]⟩
theorem z09 (hc : EqC X m C P) : ∀ n, EqG X (n + m) (DSm X.ml P n)
  | 0 => (eqG_flat.mono (Nat.zero_le _)).imp fun x y H ⟨G, d, hr, q1, q2, t⟩ => zv4 t q1 q2
  | n + 1 => by
    have ih := z09 hc n
    have e1 : EqG X (n + 1 + m) (DTup X.K (DSm X.ml P n)) := (eqG_tup zww ih).mono (by omega)
    have e2 : EqG X (n + 1 + m) (DIns C (RSm X.ml P)) := (zy5 hc).mono (by omega)
    refine ((ih.mono (by omega)).or (e1.or e2)).imp fun x y H ⟨G, d, hr, q1, q2, t⟩ => ?_
    rcases t with t | ⟨ds, rfl, t⟩ | p
    · exact .inl ⟨G, d, hr, q1, q2, t⟩
    · rw [VR] at q1 q2
      obtain ⟨a, vs, rfl, h1, r1⟩ := q1
      obtain ⟨b, ws, rfl, h2, r2⟩ := q2
      exact .inr (.inl ⟨a, b, vs, ws, rfl, rfl, h1, h2, zrs hr r1 r2 t⟩)
    · obtain ⟨fs, ds, rfl⟩ := hc.ins d p
      have q1' := q1.loose
      have q2' := q2.loose
      rw [VR] at q1 q2
      obtain ⟨a, vs, rfl, ⟨_, _, dx, h1⟩, r1⟩ := q1
      obtain ⟨b, ws, rfl, ⟨_, _, dy, h2⟩, r2⟩ := q2
      exact .inr (.inr ⟨a, b, dx, dy, _, _, rfl, rfl, h1, h2, _, q1', q2', p⟩)
/-- two tuples that are the same tree -/
def z3a (P : D → Prop) (n : Nat) : DR2 := fun x y G Q => (∃ ds, x = .nd .tup ds ∧ y = .nd .tup ds ∧ ∀ e ∈ ds, SmT P n e) ∧ Q (.bl true) G
theorem z1y {n : Nat} (hr : Room (n + m + 1) X.A) (hc : EqC X m C P) : OpD X (compareOp .Eq) (z3a P n) := fun pins s σ H x y v u Q I rx ry ⟨dx, dy, G, R, hh, q1, q2, ⟨⟨ds, e1, e2, t⟩, p⟩, k⟩ => by
  subst e1 e2
  refine op_eqG (rcG_tup zww (z09 hc n)) hr pins s σ H x y v u Q I rx ry ⟨?_, fun H' e => k (.bl true) G (.bl true) H' p (zk9 e) (hh.grow e) (by rw [VR])⟩
  rw [VR] at q1 q2
  obtain ⟨a, vs, rfl, h1, r1⟩ := q1
  obtain ⟨b, ws, rfl, h2, r2⟩ := q2
  exact ⟨a, b, vs, ws, rfl, rfl, h1, h2, zrs hh r1 r2 t⟩
end
end DL
namespace DL
open PySem PySem.Spec PyProof.Rows L2
section
variable {P : Program} {w : World} {A : Around} {E : Value → Shared → Prop} {s : Shared}
/-- set(xs), xs a tuple -/
theorem zsz {l : Addr} {items : Array Value} (ks : List (Addr × List Int)) {Q : Value → Shared → Prop} (hh : A.handled = none) (hl : s.heap.IsTuple l items) (hit : items.toList = ks.map fun p => Value.ref p.1)
    (hk : ∀ p ∈ ks, IsT P w s.heap p.2 p.1) (hfew : ks.length < 64) (hu : A.units + 3 < cLine)
    (h : ∀ (h' : Heap) (tk : Nat) L es ep t, SetTR P w h' s.heap.objs.size L es ep t → Got ks ks.length L → (∀ b o, s.heap.get? b = some o → h'.get? b = some o) → Q (.ref s.heap.objs.size) { s with heap := h', toks := tk }) :
    wpAny (model P w) A (call (.type "set") [.ref l]) Q E s := by
  have hisz : items.size = ks.length := by
    have q := congrArg List.length hit
    rw [Array.length_toList, List.length_map] at q
    exact q
  obtain ⟨c, tl, hmro⟩ := F.called_set.mro
  have hmade := F.called_set.made
  have hsub := F.called_set.sub
  refine wpAny_call (codeAny_of_tree ?_)
  show wpAny _ _ (callAny (.type "set") _) _ _ _
  refine wpAny_pure ⟨Code.quiet_builtin _ (by decide +kernel), codeAny_builtin F.entry_type_call ?_⟩
  rw [Around.under_plain (weight_type_call_type "set" [.ref l] []) rfl]
  have h1 := F.called_set.notType
  have h2 := F.called_set.canCreate
  have hct := F.typeCall_set_1 (.ref l)
  repeat (any_goals (first | assumption | wp_step))
  refine codeAny_mono (code_set_led1 (.ref l) (E := E) (Q₁ := fun obj s₁ => obj = .ref s.heap.objs.size ∧ s₁ = { s with heap := s.heap.push { cls := .type "set", dict := none, data := .set #[] 0 (.fresh 0 0 (!w.params.followText "set-order")) } }) ⟨rfl, rfl⟩) fun r s₁ hr => ?_
  cases r with
  | error e => exact hr
  | ok fl =>
    cases fl with
    | ret obj =>
      obtain ⟨rfl, rfl⟩ := hr
      have hS : (s.heap.push { cls := .type "set", dict := none, data := .set #[] 0 (.fresh 0 0 (!w.params.followText "set-order")) }).get? s.heap.objs.size = some { cls := .type "set", dict := none, data := .set #[] 0 (.fresh 0 0 (!w.params.followText "set-order")) } := Heap.get?_push_size _ rfl
      have hT : Shared.TypeIs { s with heap := s.heap.push { cls := .type "set", dict := none, data := .set #[] 0 (.fresh 0 0 (!w.params.followText "set-order")) } } (.ref s.heap.objs.size) "set" := ⟨_, hS, rfl⟩
      have hli := F.called_set.init.lookup
      have hbi := F.called_set.init.bind (.ref s.heap.objs.size)
      repeat (any_goals (first | assumption | wp_step))
      refine codeAny_mono (codeAny_call_builtin (R := wants (fun r s₂ => r = .none ∧ ∃ h' tk L es ep t, s₂ = { s with heap := h', toks := tk } ∧ SetTR P w h' s.heap.objs.size L es ep t ∧ Got ks ks.length L ∧
          (∀ b o, s.heap.get? b = some o → h'.get? b = some o)) E) F.called_set.init.plain F.entry_set_init (check_set_init_1 hT ?_)) fun r₂ s₂ hr₂ => ?_
      · obtain ⟨ol, hol, hcl, nl, hdl⟩ := hl
        obtain ⟨ocls, odict, odata, oslots⟩ := ol
        simp only at hcl hdl
        subst hcl; subst hdl
        have hol' : (s.heap.push { cls := .type "set", dict := none, data := .set #[] 0 (.fresh 0 0 (!w.params.followText "set-order")) }).get? l = some { cls := .type "tuple", dict := odict, data := .seq items nl, slots := oslots } := Heap.get?_push_of_some _ hol
        have hsls := F.sub_tuple_set
        have hslf := F.sub_tuple_frozenset
        have hne : (Value.type "tuple" == Value.type "dict") = false := by decide
        have hl1 : (s.heap.push { cls := .type "set", dict := none, data := .set #[] 0 (.fresh 0 0 (!w.params.followText "set-order")) }).IsTuple l items := ⟨_, hol', rfl, nl, rfl⟩
        unfold Builtin.«set.__init__» noKeywords Builtin.Frozenset.updateFrom
        generalize hPI : pyIter = PI
        wp_walk
        subst hPI
        refine wpAny_pyIter_tuple hl1 ?_
        refine wpAny_bind (wpAny_runValue ?_)
        have hlS : l < s.heap.objs.size := Heap.lt_size hol
        have hh3 : A.in1.in1.in1.handled = none := by simp [hh]
        have hz1 : (s.heap.push { cls := .type "set", dict := none, data := .set #[] 0 (.fresh 0 0 (!w.params.followText "set-order")) }).objs.size = s.heap.objs.size + 1 := Heap.size_push ..
        have hneI : l ≠ (s.heap.push { cls := .type "set", dict := none, data := .set #[] 0 (.fresh 0 0 (!w.params.followText "set-order")) }).objs.size := by
          rw [Heap.size_push]; exact Nat.ne_of_lt (Nat.lt_succ_of_lt hlS)
        have hSf : s.heap.objs.size ∉ [(s.heap.push { cls := .type "set", dict := none, data := .set #[] 0 (.fresh 0 0 (!w.params.followText "set-order")) }).objs.size, l] := by
          rw [Heap.size_push]; simp only [List.mem_cons, List.mem_singleton, List.not_mem_nil, or_false, not_or]
          exact ⟨Nat.ne_of_lt (Nat.lt_succ_self _), Nat.ne_of_gt hlS⟩
        have hval : ∀ (i : Nat) (v : Value), items[i]? = some v → ∃ p, ks[i]? = some p ∧ v = .ref p.1 := fun i v hv => by
          have q : items.toList[i]? = some v := by rw [Array.getElem?_toList]; exact hv
          rw [hit, List.getElem?_map] at q
          cases hq : ks[i]? with
          | none => rw [hq] at q; cases q
          | some p =>
            rw [hq] at q
            exact ⟨p, rfl, (Option.some.inj q).symm⟩
        have none_of : ∀ b, s.heap.objs.size ≤ b → s.heap.get? b = none := fun b hb => by
          cases q : s.heap.get? b with
          | none => rfl
          | some o => exact absurd (Nat.lt_of_lt_of_le (Heap.lt_size q) hb) (Nat.lt_irrefl _)
        refine set_update_tups ((Walks.tuple hh3 _ l hneI items).toS) s.heap.objs.size
          hSf ks hisz hfew hval s.heap hk (none_of _ (Nat.le_refl _)) (fun b hb => none_of b (by
            rw [List.mem_singleton.mp hb, Heap.size_push]
            exact Nat.le_succ _)) hu (items.size - 0) 0 _ (by omega) (Nat.zero_le _)
          ⟨⟨_, Heap.get?_push_size _ rfl, rfl, rfl⟩, (hl1.push _)⟩ (fun b o e => Heap.get?_push_of_some _ (Heap.get?_push_of_some _ e)) ?hS0 ?hR
        case hS0 =>
          have hget : ((s.heap.push { cls := .type "set", dict := none, data := .set #[] 0 (.fresh 0 0 (!w.params.followText "set-order")) }).push { cls := .type "tuple_iterator", data := .fields #[.ref l, .int 0 0] }).get? s.heap.objs.size
              = some { cls := .type "set", dict := none, data := .set #[] 0 (.fresh 0 0 (!w.params.followText "set-order")) } := Heap.get?_push_of_some _ hS
          exact ⟨[], #[], 0, _, setTR_fresh hget, Got.zero ks⟩
        case hR =>
          intro s' L es ep t hm hS' g' hkp
          obtain ⟨h', g2, d', tk', os'⟩ := s'
          have eg : g2 = s.gens := hm.gens
          have ed : d' = s.drawn := hm.drawn
          have eo : os' = s.os := hm.os
          subst eg; subst ed; subst eo
          show wpAny _ _ _ _ _ _
          refine wpAny_pure ?_
          show wpAny _ _ (ret Value.none) _ _ _
          rw [hisz] at g'
          exact wpAny_pure ⟨rfl, h', tk', L, es, ep, t, rfl, hS', g', hkp⟩
      · cases r₂ with
        | error e => exact hr₂
        | ok fl₂ =>
          cases fl₂ with
          | ret r =>
            obtain ⟨rfl, h', tk, L, es, ep, t, rfl, hS', g', hk'⟩ := hr₂
            repeat (any_goals (first | assumption | wp_step))
            exact h _ _ _ _ _ _ hS' g' hk'
          | _ => exact hr₂.elim
    | _ => exact hr.elim
theorem z0z : ∀ a b : List Int, PySem.W.alike (py (eR a)) (py (eR b)) = true := by
  intro a b
  unfold eR
  rw [py, py, PySem.W.alike]
  induction a generalizing b with
  | nil => rw [List.map_nil, pys, PySem.W.alikeAll]
  | cons x a ih => cases b with
    | nil => rw [List.map_nil, pys, List.map_cons, pys, PySem.W.alikeAll]
    | cons y b =>
      rw [List.map_cons, pys, List.map_cons, pys, PySem.W.alikeAll, ih b, py, py, PySem.W.alike]
      rfl
theorem z0b (a : List Int) : (py (eR a)).depth ≤ 1 := zmg (B := 0) fun d hd => by
  obtain ⟨i, _, rfl⟩ := List.mem_map.mp hd
  exact Nat.le_of_eq (zem _)
theorem zuv {a : Addr} {L : List (Addr × List Int)} {es : Array (Int × Value)} {ep : Nat} {t : SetTable} {Q : Value → Shared → Prop} (R : SetTR P w s.heap a L es ep t) (hh : A.handled = none) (hu : A.units + 64 < cLine)
    (hn : ∀ q ∈ L, q.2 ≠ []) (hr : ∀ q ∈ L, ∃ rs, Reads s.heap (.ref q.1) (py (eR q.2)) rs)
    (hQ : ∀ s' p (out : List Value) (c : Nat) (L' : List (Addr × List Int)), (∀ b o, s.heap.get? b = some o → s'.heap.get? b = some o) → s'.gens = s.gens → s'.os = s.os → s.heap.objs.size ≤ p →
      s'.heap.get? p = some (seqObj "list" (List.toArray out) c) → out.length = L'.length → L'.Perm L → PySem.W.EachIs (fun u d => ∃ q ∈ L, u = Value.ref q.1 ∧ d = eR q.2) out (srt (L'.map fun q => eR q.2)) → Q (.ref p) s') :
    wpAny (model P w) A (call (.builtin "sorted") [.ref a]) Q E s := by
  obtain ⟨o, ho, hex, hd⟩ := R.ob
  have hsz := R.size
  have hfew := R.few
  refine Calls.call_function_entry kind_sorted plain_sorted entry_sorted (args_sorted1 _) ?_
  unfold Builtin.«sorted»
  refine wpAny_bind (m := checkCount "sorted" 1 1 _) (wpAny_pure ?_)
  refine wpAny_bind (collect_set (A := A.in1) hh ⟨o, ho, hex.1, hd⟩ R.fits (by unfold scanBound; omega) R.tab.ris R.led fun s1 vs k1 hz g1 o1 pm => ?_)
  have hes : es.toList.map (·.2) = L.map fun q => Value.ref q.1 := by
    rw [R.rows]
    unfold rowsOf
    rw [List.map_map] <;> rfl
  rw [hes] at pm
  have ord : ∀ vs : List Value, (∀ v ∈ vs, ∃ q ∈ L, v = Value.ref q.1) → ∃ L1 : List (Addr × List Int), vs = L1.map (fun q => Value.ref q.1) ∧ ∀ q ∈ L1, q ∈ L := by
    intro vs
    induction vs with
    | nil => intro _; exact ⟨[], rfl, fun q hq => (by cases hq)⟩
    | cons v vs ih =>
      intro hv
      obtain ⟨q, hq, e⟩ := hv v List.mem_cons_self
      obtain ⟨L1, e1, hs⟩ := ih fun u hu => hv u (List.mem_cons_of_mem _ hu)
      refine ⟨q :: L1, by rw [List.map_cons, e, e1], fun r hr => ?_⟩
      rcases List.mem_cons.mp hr with z | z
      · rw [z]; exact hq
      · exact hs r z
  have one : ∀ q ∈ L, ∀ r ∈ L, q.1 = r.1 → q = r := fun q hq r hr e => by
    have a1 := R.tup q hq
    have a2 := R.tup r hr
    rw [e] at a1
    have e2 : q.2 = r.2 := a1.inj a2
    exact Prod.ext e e2
  have perm_of : ∀ L1 : List (Addr × List Int), (∀ q ∈ L1, q ∈ L) → (L1.map (fun q => Value.ref q.1)).Perm (L.map fun q => Value.ref q.1) → L1.Perm L := by
    intro L1 hs pm1
    have nL : L.Nodup := nodup_of_map R.nd
    have nref : (L.map fun q => Value.ref q.1).Nodup := by
      refine List.pairwise_map.mpr (List.Pairwise.imp_of_mem (fun {q r} hq hr hne e => ?_) nL)
      injection e with e
      exact hne (one q hq r hr e)
    have n1 : L1.Nodup := nodup_of_map (pm1.nodup_iff.mpr nref)
    refine (List.perm_ext_iff_of_nodup n1 nL).mpr fun q => ⟨hs q, fun hq => ?_⟩
    have hm : Value.ref q.1 ∈ L1.map (fun q => Value.ref q.1) := pm1.mem_iff.mpr (List.mem_map.mpr ⟨q, hq, rfl⟩)
    obtain ⟨r, hr, e⟩ := List.mem_map.mp hm
    injection e with e
    rw [← one r (hs r hr) q hq e]
    exact hr
  obtain ⟨L1, rfl, hs1⟩ := ord vs fun v hv => by
    obtain ⟨q, hq, e⟩ := List.mem_map.mp (pm.mem_iff.mp hv)
    exact ⟨q, hq, e.symm⟩
  have p1 : L1.Perm L := perm_of L1 hs1 pm
  have hvl : (L1.map fun q => Value.ref q.1).length < 64 := by rw [pm.length_eq, List.length_map]; exact hfew
  refine wpAny_bind (wpAny_newList ?_ (by rw [sizeLine_eq]; omega))
  have hoL : (s1.heap.push (seqObj "list" (L1.map fun q => Value.ref q.1).toArray 0)).get? s1.heap.objs.size = some (seqObj "list" (L1.map fun q => Value.ref q.1).toArray 0) := Heap.get?_push_size _ rfl
  have mk : ∀ (S : Value → D → Prop) (L2 : List (Addr × List Int)), (∀ q ∈ L2, S (.ref q.1) (eR q.2)) → PySem.W.EachIs S (L2.map fun q => Value.ref q.1) (L2.map fun q => eR q.2) := fun S L2 => by
    induction L2 with
    | nil => intro _; exact .nil
    | cons q L2 ih => intro h; exact .cons (h q List.mem_cons_self) (ih fun r hr => h r (List.mem_cons_of_mem _ hr))
  refine wpAny_bind (wpAny_holding (PySem.W.list_sort_data (s := { s1 with heap := s1.heap.push (seqObj "list" (L1.map fun q => Value.ref q.1).toArray 0) }) (R := fun u d => ∃ q ∈ L, u = Value.ref q.1 ∧ d = eR q.2) (enc := py) (bs := L1.map fun q => eR q.2) hoL (mk _ L1 fun q hq => ⟨q, hs1 q hq, rfl, rfl⟩)
    (mk _ L1 fun q hq => ?_) ?_ ?_ (by rw [List.length_map]; rw [List.length_map] at hvl; rw [sizeLine_eq]; omega) (fun b hb => ?_) fun out lo eo => ?_))
  · obtain ⟨rs, rd⟩ := hr q (hs1 q hq)
    have rd1 : Reads s1.heap (.ref q.1) (py (eR q.2)) rs := PyProof.Rows.Reads.keeps k1 rd
    exact ⟨rs, PyProof.Rows.Reads.keeps (fun b o q => Heap.get?_push_of_some _ q) rd1, fun hm => by
      obtain ⟨o, ho⟩ := PyProof.On.reads_mem_get rd1 _ hm
      exact absurd (Heap.lt_size ho) (Nat.lt_irrefl _)⟩
  · intro d hd d' hd'
    rw [List.map_map] at hd hd'
    obtain ⟨x, _, rfl⟩ := List.mem_map.mp hd
    obtain ⟨y, _, rfl⟩ := List.mem_map.mp hd'
    exact z0z _ _
  · refine .inl fun d hd => ?_
    rw [List.map_map] at hd
    obtain ⟨x, hx, rfl⟩ := List.mem_map.mp hd
    have := hn x (hs1 x hx)
    show ∃ y r, py (eR x.2) = _
    cases e : x.2 with
    | nil => exact absurd e this
    | cons y r => exact ⟨_, _, by unfold eR; rw [py, List.map_cons, pys]⟩
  · obtain ⟨x, _, rfl⟩ := List.mem_map.mp hb
    have := z0b x.2
    show A.units + 1 + 1 + _ < _
    omega
  · obtain ⟨c, hc⟩ := sortedHeap_at (vs := L1.map fun q => Value.ref q.1) (out := out.toArray) hoL
    refine wpAny_pure ⟨_, rfl, hQ _ s1.heap.objs.size out c L1 (fun b u e => ?_) g1 o1 hz hc (by rw [lo, List.length_map]) p1 eo⟩
    have q := k1 b u e
    have hlt := Heap.lt_size q
    show (sortedHeap (s1.heap.push (seqObj "list" (L1.map fun q => Value.ref q.1).toArray 0)) s1.heap.objs.size _ out.toArray).get? b = some u
    rw [sortedHeap_old (Nat.ne_of_lt hlt) (by rw [size_push']; exact Nat.lt_succ_of_lt hlt)]
    exact Heap.get?_push_of_some _ q
end
end DL
namespace DL
open PySem PySem.Spec PyProof.Rows L2
section
variable {X : Cx}
theorem zwd {K : Ml} {H : Hp} {G : DHp} : ∀ {ks : List (List Int)} {vs : List V}, VRs K H G (ks.map eR) vs → ∃ as : List (Addr × List Int), vs = as.map (fun p => V.ref p.1) ∧ as.map (·.2) = ks ∧ ∀ p ∈ as, SqT K.K H p.1 (p.2.map V.int) ∧ VR K H G (eR p.2) (.ref p.1)
  | [], vs, h => by
    rw [List.map_nil] at h
    cases h.nil_of
    exact ⟨[], rfl, rfl, fun p hp => nomatch hp⟩
  | k :: ks, vs, h => by
    rw [List.map_cons] at h
    obtain ⟨v, vs, rfl, q, t⟩ := h.uncons
    obtain ⟨as, rfl, e2, h3⟩ := zwd t
    have q0 := q
    unfold eR at q
    rw [VR] at q
    obtain ⟨a, ws, rfl, h1, r1⟩ := q
    have ew : ws = k.map V.int := by
      have go : ∀ (k : List Int) (ws : List V), VRs K H G (k.map D.int) ws → ws = k.map V.int := fun k => by
        induction k with
        | nil => intro ws h; rw [List.map_nil] at h; exact h.nil_of
        | cons i k ih =>
          intro ws h
          rw [List.map_cons] at h
          obtain ⟨v, vs, rfl, q, t⟩ := h.uncons
          rw [VR] at q
          rw [ih _ t, q]; rfl
      exact go k ws r1
    subst ew
    refine ⟨(a, k) :: as, rfl, by rw [List.map_cons, e2], fun p hp => ?_⟩
    rcases List.mem_cons.mp hp with rfl | hp
    · exact ⟨h1, q0⟩
    · exact h3 p hp
/-- sorted(set(e)) -/
def zuu (T : DTE) : DTE := fun η G Q => T η G fun d G1 => ∃ ks : List (List Int), sqD d G1 = some (ks.map eR) ∧ ks.length < 64 ∧ (∀ k ∈ ks, k ≠ []) ∧
  ∀ ls : List (List Int), ls.Nodup → (∀ k, k ∈ ls ↔ k ∈ ks) → ∀ p, G1 p = none → Q (.ref p) (up G1 p (.lst (srt (ls.map eR))))
theorem zxe [Bs] {e : Expr} {T : DTE} {p p2 q pos : Pos} (hc : X.calm = true) (hu : X.A.units + 65 < cLine) (hm : X.mg "sorted" = none) (hm2 : X.mg "set" = none) (he : PED X e T)
    (hg : Gl X "sorted" := by rfl) (hg2 : Gl X "set" := by rfl) (na : starEach [e] X.env = (false, eval e X.env) :: starEach [] X.env := by rfl) :
    PED X (.Call (.Name "sorted" p) [.Call (.Name "set" p2) [e] [] q] [] pos) (zuu T) := ⟨fun pins s σ H Q I ⟨η, G, P, hs, hr, t, k⟩ => by
  refine Call_ (ld_blt I hg hm PyProof.Rows.boot_sorted ?_)
  refine PyProof.Rows.callWith_builtin1 (PyProof.Rows.args_cons ?_ rfl) rfl rfl
  refine Call_ (ld_blt I hg2 hm2 PyProof.Rows.boot_set ?_)
  refine PyProof.Rows.callWith_type1 (PyProof.Rows.args_cons (thn (he.run pins s σ H (fun v H' => ∃ d G1, (∃ ks : List (List Int), sqD d G1 = some (ks.map eR) ∧ ks.length < 64 ∧ (∀ k ∈ ks, k ≠ []) ∧
      ∀ ls : List (List Int), ls.Nodup → (∀ k, k ∈ ls ↔ k ∈ ks) → ∀ p, G1 p = none → P (.ref p) (up G1 p (.lst (srt (ls.map eR))))) ∧ Ext H G H' G1 ∧ HR X.ml H' G1 ∧ VR X.ml H' G1 d v) I ⟨η, G, _, hs, hr, t, fun d G1 v H1 p1 x1 r1 q1 => ⟨d, G1, p1, x1, r1, q1⟩⟩) fun v s1 ⟨x, H1, I1, rx, q1⟩ => PyProof.Rows.args_nil ?_) na) na rfl
  obtain ⟨d, G1, ⟨ks, hsq, hfew, hne, fin⟩, x1, r1, q1⟩ := q1
  obtain ⟨a, vs, rfl, hq, r⟩ := zxz r1 q1 hsq
  cases (show v = Value.ref a from rx)
  obtain ⟨as, rfl, eks, has⟩ := zwd r
  have hlas : as.length < 64 := by rw [← eks, List.length_map] at hfew; exact hfew
  have go : ∀ (h' : Heap) (tk : Nat) L es ep t, SetTR X.prog X.w h' s1.heap.objs.size L es ep t → Got as as.length L → (∀ b o, s1.heap.get? b = some o → h'.get? b = some o) →
      wpAny (model X.prog X.w) X.A (call (.builtin "sorted") [.ref s1.heap.objs.size]) (fun v s' => ∃ x H', Inv X pins σ H' s' ∧ RelV x v ∧ Q x H') X.xe { s1 with heap := h', toks := tk } := fun h' tk L es ep t R g kp => by
    have sub : ∀ p ∈ L, p ∈ as := fun p hp => List.mem_of_mem_take (g.sub p hp)
    refine zuv (s := { s1 with heap := h', toks := tk }) R (I1.ok.hd hc) (by omega) (fun q hq => hne _ (by rw [← eks]; exact List.mem_map.mpr ⟨q, sub q hq, rfl⟩)) (fun q hq => ?_) fun s' p out c L' kp2 g2 o2 hp hg lo pm eo => ?_
    · obtain ⟨rs, rd⟩ := Dp.reads I1 _ _ (Value.ref q.1) (((has q (sub q hq)).2).dp (zgc (by unfold eR; rw [zba]; exact zi7 zum _))) rfl
      exact ⟨rs, PyProof.Rows.Reads.keeps kp rd⟩
    · have hkeep : ∀ b o, s1.heap.get? b = some o → s'.heap.get? b = some o := fun b o e => kp2 b o (kp b o e)
      have hsz : s1.heap.objs.size ≤ p := by
        obtain ⟨o, ho, _⟩ := R.ob
        have : s1.heap.objs.size < h'.objs.size := Heap.lt_size ho
        have hp' : h'.objs.size ≤ p := hp
        omega
      have hn : H1 p = none := I1.hok.fresh hsz
      have each : PySem.W.EachIs (fun u d => ∃ v, RelV v u ∧ VR X.ml H1 G1 d v) out (srt (L'.map fun q => eR q.2)) := eo.mono fun u b ⟨q, hq, e1, e2⟩ => by
        subst e1 e2
        exact ⟨.ref q.1, rfl, (has q (sub q hq)).2⟩
      obtain ⟨ws, rw', qs⟩ := zmh each
      have hlen : ws.length ≤ sizeLine := by
        rw [rw'.length, lo, pm.length_eq]
        have := R.few
        rw [sizeLine_eq]; omega
      have J : Inv X pins σ (upd H1 p (.lst ws)) { s1 with heap := s'.heap, gens := s'.gens, drawn := s'.drawn, toks := s'.toks } :=
        I1.call (ch := []) (Un.laid hkeep hsz hn) (I1.hok.laid hkeep hsz ⟨hlen, out, c, rw', hg⟩) (by rw [g2]; exact I1.bare) (fun _ z => nomatch z)
      have es' : s' = { s1 with heap := s'.heap, gens := s'.gens, drawn := s'.drawn, toks := s'.toks } := by
        obtain ⟨h2, g2', d2, t2, os2⟩ := s'
        simp only at o2
        subst o2
        rfl
      have x3 : Ext H1 G1 (upd H1 p (.lst ws)) (up G1 p (.lst (srt (L'.map fun q => eR q.2)))) := .new hn
      rw [es']
      refine ⟨.ref p, _, J, rfl, ?_⟩
      have nd : (L'.map (·.2)).Nodup := (pm.map (·.2)).nodup_iff.mpr R.nd
      have fe := fin (L'.map (·.2)) nd (fun k => ?_) p (r1.free hn)
      · rw [List.map_map] at fe
        exact k (.ref p) _ (.ref p) _ fe (x1.trans x3) (r1.new hn ⟨ws, upd_same, qs.ext r1 x3⟩) (by rw [VR])
      · rw [(pm.map (·.2)).mem_iff, ← eks]
        constructor
        · intro h
          obtain ⟨q, hq, rfl⟩ := List.mem_map.mp h
          exact List.mem_map.mpr ⟨q, sub q hq, rfl⟩
        · intro h
          obtain ⟨q, hq, rfl⟩ := List.mem_map.mp h
          exact g.all q (by rw [List.take_length]; exact hq)
  rcases hq with hq | hq
  · obtain ⟨its, rv, pl, hz⟩ := I1.list hq
    exact call_set_tups (P := X.prog) (w := X.w) as (I1.ok.hd hc) pl.isList (by simpa using refs_of_vals rv) (fun p hp => I1.isT (has p hp).1) hlas (by omega) fun h' tk L es ep t R g k => PyProof.Rows.args_nil (go h' tk L es ep t R g k)
  · obtain ⟨its, rv, pl, hz⟩ := I1.tuple hq
    exact zsz (P := X.prog) (w := X.w) as (I1.ok.hd hc) pl (by simpa using refs_of_vals rv) (fun p hp => I1.isT (has p hp).1) hlas (by omega) fun h' tk L es ep t R g k => PyProof.Rows.args_nil (go h' tk L es ep t R g k)⟩
end
end DL
namespace DL
open PySem PySem.Spec PyProof.Rows L2
end DL
namespace DL
open PySem PySem.Spec PyProof.Rows L2
section
variable {X : Cx}
theorem zwy {K : Ml} {H : Hp} {G : DHp} : ∀ {xs : List Str} {us : List Value}, zey xs us = true → ∃ vs, VRs K H G (xs.map D.str) vs ∧ Vals vs us
  | [], [], _ => ⟨[], .nil, .nil⟩
  | x :: xs, .str y t :: us, h => by
    rw [zey, Bool.and_eq_true, decide_eq_true_eq] at h
    obtain ⟨rfl, h⟩ := h
    obtain ⟨vs, h1, h2⟩ := zwy (K := K) (H := H) (G := G) h
    exact ⟨.str x :: vs, .cons (by rw [VR]) h1, .cons ⟨t, rfl⟩ h2⟩
  | [], _ :: _, h => by simp [zey] at h
  | x :: xs, [], h => by simp [zey] at h
  | x :: xs, .none :: us, h => by simp [zey] at h
  | x :: xs, .bool _ :: us, h => by simp [zey] at h
  | x :: xs, .int _ _ :: us, h => by simp [zey] at h
  | x :: xs, .ref _ :: us, h => by simp [zey] at h
  | x :: xs, .type _ :: us, h => by simp [zey] at h
  | x :: xs, .builtin _ :: us, h => by simp [zey] at h
theorem zym {K : Ml} {a : Addr} {od : Option Addr} {its : Array Value} {n : Nat} {sl : Array (Option Value)} {xs : List Str} (e : K.K.lookup a = some ⟨.type "tuple", od, .seq its n, sl⟩) (h : zey xs its.toList = true) (hz : its.size ≤ sizeLine) : KTup K a (.nd .tup (xs.map D.str)) := fun H G => by
  obtain ⟨vs, h1, h2⟩ := zwy (K := K) (H := H) (G := G) h
  rw [VR]
  exact ⟨a, vs, rfl, .inr ⟨_, its, n, e, rfl, rfl, hz, h2⟩, h1⟩
/-- what the text says of such a tuple -/
def GTup (K : PySem.W.Frag) (mg : Str → Option Value) (x : Str) (xs : List Str) : Prop := ∃ (a : Addr) (od : Option Addr) (its : Array Value) (n : Nat) (sl : Array (Option Value)), mg x = some (.ref a) ∧ K.lookup a = some ⟨.type "tuple", od, .seq its n, sl⟩ ∧ zey xs its.toList = true ∧ its.size ≤ sizeLine
theorem zx5 [Bs] {x : Str} {xs : List Str} {ds : List D} {pos : Pos} (h : GTup X.K X.mg x xs) (e : xs.map D.str = ds := by rfl) (hg : Gl X x := by rfl) (hd : (x == ("__debug__" : Str)) = false := by decide) : PED X (.Name x pos) (dC (.nd .tup ds)) := by
  obtain ⟨a, od, its, n, sl, h1, h2, h3, h4⟩ := h
  subst e
  exact z0w h1 (zym h2 h3 h4) hg hd
end
end DL
namespace DL
open PySem PySem.Spec PyProof.Rows L2
section
variable {X : Cx}
def dEmp (neg : Bool) : DR2 := fun x y G Q => match y with
  | .nd .tup [] => (match x with
    | .nd .tup ds => Q (.bl (neg != ds.isEmpty)) G
    | _ => False)
  | _ => match lsD y G with
    | some [] => (match lsD x G with
      | some ds => Q (.bl (neg != ds.isEmpty)) G
      | none => False)
    | _ => False
theorem zv7 {items items2 : Array Value} {K : Ml} {H : Hp} {G : DHp} {ds : List D} {vs ws : List V} (r : VRs K H G ds vs) (rv : Vals vs items.toList) (r2 : VRs K H G [] ws) (rv2 : Vals ws items2.toList) : items2.size = 0 ∧ items.size = ds.length := by
  cases r2.nil_of
  have h1 := rv2.length
  have h2 := rv.length
  have h3 := r.length
  rw [Array.length_toList] at h1 h2
  have h3 : vs.length = ds.length := by omega
  exact ⟨h1.symm, h2.symm.trans h3⟩
theorem isE {ds : List D} : ds.isEmpty = (ds.length == 0) := by cases ds <;> rfl
theorem z4c (hu : X.A.units + 64 < cLine) : OpD X (compareOp .Eq) (dEmp false) := zkv fun pins s σ H G x y v u dx dy P I rx ry hr q1 q2 t => by
  unfold dEmp at t
  split at t
  · split at t
    · rename_i ds
      rw [VR] at q1 q2
      obtain ⟨a, vs, rfl, h1, r1⟩ := q1
      obtain ⟨b, ws, rfl, h2, r2⟩ := q2
      cases (show v = Value.ref a from rx)
      cases (show u = Value.ref b from ry)
      obtain ⟨i1, rv1, l1, _⟩ := I.tuple h1
      obtain ⟨i2, rv2, l2, _⟩ := I.tuple h2
      obtain ⟨e2, e1⟩ := zv7 (items := i1.toArray) (items2 := i2.toArray) r1 (by simpa using rv1) r2 (by simpa using rv2)
      refine SeqAt.eq_tupleAt (e := fun _ => true) l1 l2 (by omega) (fun j _ hj => absurd hj (by omega)) ?_
      have : ((List.range (min i1.toArray.size i2.toArray.size)).all (fun _ => true) && i1.toArray.size == i2.toArray.size) = (false != ds.isEmpty) := by
        rw [isE, e1, e2]; cases ds.length <;> simp
      rw [this]
      exact zbo (z := .bl _) I rfl hr (by rw [VR] <;> rfl) t
    · exact t.elim
  · split at t
    · rename_i ey
      split at t
      · rename_i ds ex
        obtain ⟨a, vs, rfl, h1, r1⟩ := zty hr q1 ex
        obtain ⟨b, ws, rfl, h2, r2⟩ := zty hr q2 ey
        cases (show v = Value.ref a from rx)
        cases (show u = Value.ref b from ry)
        obtain ⟨i1, rv1, l1, _⟩ := I.list h1
        obtain ⟨i2, rv2, l2, _⟩ := I.list h2
        obtain ⟨e2, e1⟩ := zv7 (items := i1.toArray) (items2 := i2.toArray) r1 (by simpa using rv1) r2 (by simpa using rv2)
        cases ds with
        | nil =>
          refine SeqAt.eq_listAt (e := fun _ => true) l1.isList l2.isList (by rw [e1, e2]; rfl) (by omega) (fun j _ hj => absurd hj (by omega)) ?_
          rw [e1]
          exact zbo (z := .bl _) I rfl hr (by rw [VR] <;> rfl) t
        | cons d ds =>
          refine SeqAt.eq_list_lengthsAt l1.isList l2.isList (by rw [e1, e2]; simp) (by omega) ?_
          exact zbo (z := .bl _) I rfl hr (by rw [VR] <;> rfl) t
      · exact t.elim
    · exact t.elim
end
end DL
namespace DL
open PySem PySem.Spec PyProof.Rows L2
mutual
def zan : D → Bool
  | .non => true
  | .int _ => true
  | .str x => PyData.strOk x
  | .nd .tup ds => cleanXs ds
  | .nd .lst ds => cleanXs ds
  | _ => false
def cleanXs : List D → Bool
  | [] => true
  | d :: ds => zan d && cleanXs ds
end
mutual
theorem zgk : ∀ {d : D}, zan d = true → zb8 d = true
  | .str _, _ => rfl
  | .non, _ => rfl
  | .int _, _ => rfl
  | .nd .tup ds, h => by rw [zb8]; rw [zan] at h; exact cleanXs_plain h
  | .nd .lst ds, h => by rw [zb8]; rw [zan] at h; exact cleanXs_plain h
  | .bl _, h => by simp [zan] at h
  | .ty _, h => by simp [zan] at h
  | .ref _, h => by simp [zan] at h
  | .nd .scr _, h => by simp [zan] at h
  | .nd (.ins _ _) _, h => by simp [zan] at h
  | .nd (.dK _) _, h => by simp [zan] at h
  | .nd (.dN _) _, h => by simp [zan] at h
theorem cleanXs_plain : ∀ {ds : List D}, cleanXs ds = true → plainDs ds = true
  | [], _ => rfl
  | d :: ds, h => by
    rw [cleanXs, Bool.and_eq_true] at h
    rw [plainDs, zgk h.1, cleanXs_plain h.2]; rfl
end
mutual
theorem zq4 : ∀ {d : D}, zan d = true → PyData.canLay0 (py d) = true
  | .str x, h => by rw [py, PyData.canLay0]; rw [zan] at h; exact h
  | .non, _ => by rw [py, PyData.canLay0]
  | .int _, _ => by rw [py, PyData.canLay0]
  | .nd .tup ds, h => by rw [py, PyData.canLay0]; rw [zan] at h; exact cleanXs_lay h
  | .nd .lst ds, h => by rw [py, PyData.canLay0]; rw [zan] at h; exact cleanXs_lay h
  | .bl _, h => by simp [zan] at h
  | .ty _, h => by simp [zan] at h
  | .ref _, h => by simp [zan] at h
  | .nd .scr _, h => by simp [zan] at h
  | .nd (.ins _ _) _, h => by simp [zan] at h
  | .nd (.dK _) _, h => by simp [zan] at h
  | .nd (.dN _) _, h => by simp [zan] at h
theorem cleanXs_lay : ∀ {ds : List D}, cleanXs ds = true → PyData.canLayAll0 (pys ds) = true
  | [], _ => by rw [pys, PyData.canLayAll0]
  | d :: ds, h => by
    rw [cleanXs, Bool.and_eq_true] at h
    rw [pys, PyData.canLayAll0, zq4 h.1, cleanXs_lay h.2]; rfl
end
mutual
theorem zpg : ∀ {d e : D}, zan d = true → zan e = true → (PyData.eqv (py d) (py e) = true ↔ d = e)
  | .str _, .non, _, _ => by simp [py, PyData.eqv]
  | .non, .str _, _, _ => by simp [py, PyData.eqv]
  | .str _, .int _, _, _ => by simp [py, PyData.eqv]
  | .int _, .str _, _, _ => by simp [py, PyData.eqv]
  | .str _, .nd .tup _, _, _ => by simp [py, PyData.eqv]
  | .nd .tup _, .str _, _, _ => by simp [py, PyData.eqv]
  | .str _, .nd .lst _, _, _ => by simp [py, PyData.eqv]
  | .nd .lst _, .str _, _, _ => by simp [py, PyData.eqv]
  | .str x, .str y, _, _ => by simp [py, PyData.eqv]
  | .non, .non, _, _ => by simp [py, PyData.eqv]
  | .non, .int _, _, _ => by simp [py, PyData.eqv]
  | .non, .nd .tup _, _, _ => by simp [py, PyData.eqv]
  | .non, .nd .lst _, _, _ => by simp [py, PyData.eqv]
  | .int _, .non, _, _ => by simp [py, PyData.eqv]
  | .int i, .int j, _, _ => by simp [py, PyData.eqv]
  | .int _, .nd .tup _, _, _ => by simp [py, PyData.eqv]
  | .int _, .nd .lst _, _, _ => by simp [py, PyData.eqv]
  | .nd .tup _, .non, _, _ => by simp [py, PyData.eqv]
  | .nd .tup _, .int _, _, _ => by simp [py, PyData.eqv]
  | .nd .tup ds, .nd .tup es, h1, h2 => by
    rw [zan] at h1 h2
    rw [py, py, PyData.eqv, cleanXs_eq h1 h2]
    simp
  | .nd .tup _, .nd .lst _, _, _ => by simp [py, PyData.eqv]
  | .nd .lst _, .non, _, _ => by simp [py, PyData.eqv]
  | .nd .lst _, .int _, _, _ => by simp [py, PyData.eqv]
  | .nd .lst _, .nd .tup _, _, _ => by simp [py, PyData.eqv]
  | .nd .lst ds, .nd .lst es, h1, h2 => by
    rw [zan] at h1 h2
    rw [py, py, PyData.eqv, cleanXs_eq h1 h2]
    simp
  | .bl _, _, h, _ => by simp [zan] at h
  | .ty _, _, h, _ => by simp [zan] at h
  | .ref _, _, h, _ => by simp [zan] at h
  | .nd .scr _, _, h, _ => by simp [zan] at h
  | .nd (.ins _ _) _, _, h, _ => by simp [zan] at h
  | .nd (.dK _) _, _, h, _ => by simp [zan] at h
  | .nd (.dN _) _, _, h, _ => by simp [zan] at h
  | _, .bl _, _, h => by simp [zan] at h
  | _, .ty _, _, h => by simp [zan] at h
  | _, .ref _, _, h => by simp [zan] at h
  | _, .nd .scr _, _, h => by simp [zan] at h
  | _, .nd (.ins _ _) _, _, h => by simp [zan] at h
  | _, .nd (.dK _) _, _, h => by simp [zan] at h
  | _, .nd (.dN _) _, _, h => by simp [zan] at h
theorem cleanXs_eq : ∀ {ds es : List D}, cleanXs ds = true → cleanXs es = true → (PyData.eqvAll (pys ds) (pys es) = true ↔ ds = es)
  | [], [], _, _ => by simp [pys, PyData.eqvAll]
  | [], _ :: _, _, _ => by simp [pys, PyData.eqvAll]
  | _ :: _, [], _, _ => by simp [pys, PyData.eqvAll]
  | d :: ds, e :: es, h1, h2 => by
    rw [cleanXs, Bool.and_eq_true] at h1 h2
    rw [pys, pys, PyData.eqvAll, Bool.and_eq_true, zpg h1.1 h2.1, cleanXs_eq h1.2 h2.2]
    simp
end
theorem zqa : ∀ ds : List D, cleanXs ds = ds.all zan
  | [] => rfl
  | d :: ds => by rw [cleanXs, zqa ds]; rfl
theorem zva {α : Type} {f : α → D} (h : ∀ a, zan (f a) = true) (xs : List α) : cleanXs (xs.map f) = true := by
  rw [zqa, List.all_map, List.all_eq_true]
  intro x _; exact h x
theorem zlb {d : D} (h : zan d = true) (h2 : (py d).depth ≤ 64) : SeqAt.shaped (py d) = true := by
  unfold SeqAt.shaped
  rw [zq4 h, decide_eq_true h2]; rfl
theorem z2b {d e : D} {G : DHp} {Q : DVK} (h1 : zan (der d G) = true) (h2 : zan (der e G) = true) (d1 : (py (der d G)).depth ≤ 64) (d2 : (py (der e G)).depth ≤ 64) (b : Bool) (hb : b = true ↔ der d G ≠ der e G) (h : Q (.bl b) G) : dNe d e G Q := by
  refine ⟨⟨zgk h1, zgk h2, zlb h1 d1, zlb h2 d2⟩, ?_⟩
  have : (!PyData.eqv (py (der d G)) (py (der e G))) = b := by
    rw [Bool.eq_iff_iff, Bool.not_eq_true', hb, ← Bool.not_eq_true, zpg h1 h2]
  rw [this]; exact h
theorem zrg {x : D} (hx : zan x = true) : ∀ {ds : List D}, cleanXs ds = true → (((pys ds).any fun z => PyData.eqv z (py x)) = true ↔ x ∈ ds)
  | [], _ => by simp [pys]
  | d :: ds, h => by
    rw [cleanXs, Bool.and_eq_true] at h
    rw [pys, List.any_cons, Bool.or_eq_true, zpg h.1 hx, zrg hx h.2, List.mem_cons]
    constructor
    · rintro (h | h)
      · exact .inl h.symm
      · exact .inr h
    · rintro (h | h)
      · exact .inl h.symm
      · exact .inr h
theorem zyi {neg : Bool} {x y : D} {ds : List D} {G : DHp} {Q : DVK} (hy : der y G = .nd .lst ds ∨ der y G = .nd .tup ds) (hx : zan x = true) (hs : cleanXs ds = true) (dx : (py x).depth ≤ 64) (b : Bool) (hb : b = true ↔ x ∈ ds) (h : Q (.bl (neg != b)) G) : dIn neg x y G Q := by
  have e : ((pys ds).any fun z => PyData.eqv z (py x)) = b := by rw [Bool.eq_iff_iff, zrg hx hs]; exact hb.symm
  unfold dIn
  rcases hy with hy | hy
  · rw [hy]
    exact ⟨⟨zgk hx, cleanXs_plain hs, zlb hx dx, cleanXs_lay hs⟩, by rw [e]; exact h⟩
  · rw [hy]
    exact ⟨⟨zgk hx, cleanXs_plain hs, zlb hx dx, cleanXs_lay hs⟩, by rw [e]; exact h⟩
end DL
namespace DL
open PySem PySem.Spec PyProof.Rows L2
end DL
namespace DL
open PySem PySem.Spec PyProof.Rows L2
end DL
namespace DL
open PySem PySem.Spec PyProof.Rows L2
end DL
namespace DL
open PySem PySem.Spec PyProof.Rows L2
end DL
namespace DL
open PySem PySem.Spec PyProof.Rows L2
def z1l (T : DTE) : DTE := fun η G Q => T η G fun x G1 => match x with
  | .nd .lst ds => Q (.nd .lst ds.reverse) G1
  | _ => False
section
variable {X : Cx}
theorem zzn [Bs] {e : Expr} {T : DTE} {k : Nat} {p1 p2 p3 pos : Pos} (he : PED X e T) : PED X (.Subscript e (.Slice none none (some (.UnaryOp .USub (.Constant (.int 1) k p1) p2)) p3) pos) (z1l T) :=
  PE.impI (pe_revL he) fun _ _ σ H Q _ ⟨η, G, P, hs, hr, t, k⟩ => by
    refine ⟨η, G, _, hs, hr, t, fun d G1 v H1 p1 x1 r1 q1 => ?_⟩
    split at p1
    · rename_i ds
      rw [VR] at q1
      obtain ⟨a, vs, rfl, hh, q1⟩ := q1
      refine ⟨a, vs, rfl, .inl (.of hh.2), fun p hp => ?_⟩
      have x2 : Ext H1 G1 (upd H1 p (.lst vs.reverse)) G1 := .laid hp
      refine k _ G1 _ _ p1 (x1.trans x2) (r1.laid hp) ?_
      rw [VR]
      exact ⟨p, _, rfl, ⟨r1.free hp, upd_same⟩, (zyd q1).ext r1 x2⟩
    · exact p1.elim
end
end DL
namespace DL
open PySem PySem.Spec PyProof.Rows L2
end DL
namespace DL
open PySem PySem.Spec PyProof.Rows L2
end DL
namespace DL
open PySem PySem.Spec PyProof.Rows L2
end DL
namespace PySem.W
open PySem PySem.Calls PySem.SeqAt PyProof.Rows
end PySem.W
namespace DL
open PySem PySem.Spec PyProof.Rows L2
end DL
namespace DL
open PySem PySem.Spec PyProof.Rows L2
end DL
namespace DL
open PySem PySem.Spec PyProof.Rows L2
end DL
namespace L2
open PySem PySem.Spec PyProof.Rows
section
variable {M : Model} {prog : Program} {w : World} {A : Around} {E : Value → Shared → Prop} {s : Shared} {K : PySem.W.Frag} {x y C f : Addr} {ox oy : Obj} {od oyd : Option Obj}
theorem zr0 {args : List Value} {Q : Option Value → Shared → Prop} (X : K.In s.heap) (I : PySem.W.InstAt s.heap x ox C od) (hs : PySem.W.findIn K (.ref C) "__ne__" = some (some (.builtin "object.__ne__")))
    (h : wpAny M A (call (.builtin "object.__ne__") (.ref x :: args)) (fun v => Q (some v)) E s) : wpAny M A (callSpecialIfBound? (.ref x) "__ne__" args) Q E s := by
  simp only [callSpecialIfBound?, bindSpecialIfBound?]
  refine wpAny_holding (wpAny_bind (wpAny_bind (wpAny_bind (I.type.here ((PySem.W.looks_findIn X hs).here ?_)))))
  refine wpAny_bind (wpAny_askSetting (wpAny_ite ?_))
  have fin : wpAny M A (call (.builtin "object.__ne__") ([.ref x] ++ args) >>= fun v => pure (some v)) Q E s := wpAny_bind (wpAny_mono h (fun v s' h' => wpAny_pure h') fun _ _ h' => h')
  split
  · exact wpAny_bind (wpAny_of_eq (F.cmp_object.ne.bind _) (wpAny_pure (by exact fin)))
  · exact wpAny_tryCatch (wpAny_bind (wpAny_of_eq (F.cmp_object.ne.bind _) (wpAny_pure (by exact fin))))
theorem zvs (hu : A.units < cLine) (X : K.In s.heap) (I : PySem.W.InstAt s.heap x ox C od) (hs : PySem.W.findIn K (.ref C) "__eq__" = some (some (.ref f))) (hf : PySem.W.isFn K (.ref f) = true) {Q : Fin → Shared → Prop}
    (h : wpAny (model prog w) A (call (.ref f) [.ref x, .ref y]) (fun v s' => ∃ b, v = .bool b ∧ Q (.done (.ret (.bool (!b)))) s') E s) : wpAny (model prog w) A (Builtin.«object.__ne__» ⟨[.ref x, .ref y], []⟩) Q E s := by
  unfold Builtin.«object.__ne__»
  repeat (first
    | with_reducible refine wpAny_cRoomFor hu ?_
    | (refine wpAny_bind (m := callSpecialIfBound? (.ref x) (Str.ofString "__eq__") [.ref y])
        (PySem.W.ifBound_K X I hs hf (wpAny_mono h (fun r s' hr => by
          obtain ⟨b, rfl, hq⟩ := hr
          repeat (first | exact hq | exact wpAny_pure hq | exact wpAny_truthy_bool hq | (refine wpAny_bind (m := truthy (.bool _)) (wpAny_truthy_bool ?_)) | wp_step)) fun _ _ e => e)))
    | wp_step)
/-- x != y, both of the class C, which has its own == and no != -/
theorem zyp {Q : Value → Shared → Prop} (hu : A.units + 1 < cLine) (X : K.In s.heap) (I : PySem.W.InstAt s.heap x ox C od) (J : PySem.W.InstAt s.heap y oy C oyd) (hm : PySem.W.mroIn K C (.type "object") = some true)
    (hn : PySem.W.findIn K (.ref C) "__ne__" = some (some (.builtin "object.__ne__"))) (hs : PySem.W.findIn K (.ref C) "__eq__" = some (some (.ref f))) (hf : PySem.W.isFn K (.ref f) = true)
    (h : wpAny (model prog w) A.in1 (call (.ref f) [.ref x, .ref y]) (fun v s' => ∃ b, v = .bool b ∧ Q (.bool (!b)) s') E s) : wpAny (model prog w) A (richCompare .NotEq (.ref x) (.ref y)) Q E s := by
  have one : wpAny (model prog w) A (tryCompare (.ref x) "__ne__" (.ref y)) (fun r s' => ∃ b, r = some (.bool b) ∧ Q (.bool b) s') E s := by
    unfold tryCompare
    refine wpAny_bind (zr0 X I hn (wpAny_call (codeAny_call_builtin F.cmp_object.ne.plain F.cmpEntry_ne (PySem.W.check_slot F.cmpKind_ne F.cmpSplit_ne (I.type.andThen (PySem.W.looks_mroIn X hm)) (F.cmpArgs_ne _ _)
      (zvs (A := A.in1) hu X I hs hf (wpAny_mono h (fun v s' hv => ?_) fun _ _ e => e))))))
    obtain ⟨b, rfl, hq⟩ := hv
    exact ⟨b, rfl, wpAny_pure ⟨_, rfl, hq⟩⟩
  unfold richCompare
  simp only [oneThing_ref]
  refine wpAny_holding (wpAny_bind (wpAny_cRoomFor (Nat.lt_of_succ_lt hu) ?_))
  rw [cmpInfo_NotEq]
  dsimp only
  refine wpAny_bind (I.type.here (wpAny_bind (J.type.here ?_)))
  rw [show (Value.ref C != Value.ref C) = false from by simp]
  simp only [Bool.false_eq_true, if_false]
  refine wpAny_bind (wpAny_pure ?_)
  simp only [Bool.false_eq_true, if_false]
  refine wpAny_bind (wpAny_mono one (fun v s' hv => ?_) fun _ _ e => e)
  obtain ⟨b, rfl, hq⟩ := hv
  exact wpAny_pure hq
end
end L2
namespace GQB
open PySem PySem.SeqAt GQ
open AutoSeq1 (wpAny_loadPart')
open MeetsSeq MeetsSeq2 MeetsSeq3 SeqRoads2
section
variable {prog : Program} {w : World} {A : Around} {R : Result → Shared → Prop}
theorem tuple_eqB (l b : Addr) (items items2 : Array Value) (n n2 : Nat) (dd dd2 : Option Addr) (sl sl2 : Array (Option Value)) (hsz : items.size = items2.size) (I : Nat → Shared → Prop) (Fl : Shared → Prop)
    (turn : ∀ i (h1 : i < items.size) (h2 : i < items2.size) s, I i s → wpAny (model prog w) A.in1 (eqBool items[i] items2[i]) (fun r s' => (r = true ∧ I (i + 1) s') ∨ (r = false ∧ Fl s')) (fun e s' => R (.error e) s') s)
    (fin : ∀ s, I items.size s → R (.ok (.ret (.bool true))) s) (ffin : ∀ s, Fl s → R (.ok (.ret (.bool false))) s) {s : Shared} (hl1 : s.heap.get? l = some { cls := .type "tuple", dict := dd, data := .seq items n, slots := sl }) (hb1 : s.heap.get? b = some { cls := .type "tuple", dict := dd2, data := .seq items2 n2, slots := sl2 }) (h : I 0 s) :
    wpAny (model prog w) A.in1 (Builtin.«tuple.__eq__» ⟨[.ref l, .ref b], []⟩) (FinOf prog w A R) (fun e s' => R (.error e) s') s := by
  have f2 := AutoSeq1.sub_tuple_tuple
  have hZ : (items.toList.zip items2.toList).length = items.size := by simp [hsz]
  have h0 := h
  obtain ⟨hp, g, d, tk, os⟩ := s
  wp_walk using wpAny_loadPart' hl1, wpAny_loadPart' hb1, wpAny_forIn_list _ (fun rest b s' => b.1 = none ∧ ∃ i, rest = (items.toList.zip items2.toList).drop i ∧ i ≤ items.size ∧ I i s') _
  case turn =>
    rintro ⟨y, x⟩ rest b s' ⟨hb', i, hz, hi, hI⟩
    have hlt : i < (items.toList.zip items2.toList).length := by
      rcases Nat.lt_or_ge i (items.toList.zip items2.toList).length with h' | h'
      · exact h'
      · rw [List.drop_of_length_le h'] at hz; cases hz
    have h1 : i < items.size := hZ ▸ hlt
    have h2 : i < items2.size := hsz ▸ h1
    rw [List.drop_eq_getElem_cons hlt] at hz
    injection hz with hyx hrest
    have hy : y = items[i] := by have := congrArg Prod.fst hyx; simpa using this
    have hx : x = items2[i] := by have := congrArg Prod.snd hyx; simpa using this
    subst hy hx
    refine wpAny_bind (wpAny_mono (turn i h1 h2 s' hI) (fun r s2 q2 => ?_) fun _ _ x => x)
    rcases q2 with ⟨hr, q2⟩ | ⟨hr, q2⟩
    · subst hr
      wp_walk
      exact ⟨rfl, i + 1, hrest, h1, q2⟩
    · subst hr
      have q3 := ffin _ q2
      wp_walk
      exact q3
  case fin =>
    rintro ⟨b1, b2⟩ s' ⟨hb', i, hz, hi, hI⟩
    simp only at hb'
    subst hb'
    have hge : items.size ≤ i := by
      rcases Nat.lt_or_ge i (items.toList.zip items2.toList).length with h' | h'
      · rw [List.drop_eq_getElem_cons h'] at hz; cases hz
      · exact hZ ▸ h'
    have hi' : i = items.size := by omega
    have hR : R (.ok (.ret (.bool true))) s' := fin s' (hi' ▸ hI)
    wp_walk
    simpa [Builtin.Tuple.tupleCompareSizes, hsz] using hR
  case h =>
    exact ⟨rfl, 0, rfl, Nat.zero_le _, h0⟩
theorem tuple_neB (l b : Addr) (items items2 : Array Value) (n n2 : Nat) (dd dd2 : Option Addr) (sl sl2 : Array (Option Value)) (hsz : items.size = items2.size) (I : Nat → Shared → Prop) (Fl : Shared → Prop)
    (turn : ∀ i (h1 : i < items.size) (h2 : i < items2.size) s, I i s → wpAny (model prog w) A.in1 (eqBool items[i] items2[i]) (fun r s' => (r = true ∧ I (i + 1) s') ∨ (r = false ∧ Fl s')) (fun e s' => R (.error e) s') s)
    (fin : ∀ s, I items.size s → R (.ok (.ret (.bool false))) s) (ffin : ∀ s, Fl s → R (.ok (.ret (.bool true))) s) {s : Shared} (hl1 : s.heap.get? l = some { cls := .type "tuple", dict := dd, data := .seq items n, slots := sl }) (hb1 : s.heap.get? b = some { cls := .type "tuple", dict := dd2, data := .seq items2 n2, slots := sl2 }) (h : I 0 s) :
    wpAny (model prog w) A.in1 (Builtin.«tuple.__ne__» ⟨[.ref l, .ref b], []⟩) (FinOf prog w A R) (fun e s' => R (.error e) s') s := by
  have f2 := AutoSeq1.sub_tuple_tuple
  have hZ : (items.toList.zip items2.toList).length = items.size := by simp [hsz]
  have h0 := h
  obtain ⟨hp, g, d, tk, os⟩ := s
  wp_walk using wpAny_loadPart' hl1, wpAny_loadPart' hb1, wpAny_forIn_list _ (fun rest b s' => b.1 = none ∧ ∃ i, rest = (items.toList.zip items2.toList).drop i ∧ i ≤ items.size ∧ I i s') _
  case turn =>
    rintro ⟨y, x⟩ rest b s' ⟨hb', i, hz, hi, hI⟩
    have hlt : i < (items.toList.zip items2.toList).length := by
      rcases Nat.lt_or_ge i (items.toList.zip items2.toList).length with h' | h'
      · exact h'
      · rw [List.drop_of_length_le h'] at hz; cases hz
    have h1 : i < items.size := hZ ▸ hlt
    have h2 : i < items2.size := hsz ▸ h1
    rw [List.drop_eq_getElem_cons hlt] at hz
    injection hz with hyx hrest
    have hy : y = items[i] := by have := congrArg Prod.fst hyx; simpa using this
    have hx : x = items2[i] := by have := congrArg Prod.snd hyx; simpa using this
    subst hy hx
    refine wpAny_bind (wpAny_mono (turn i h1 h2 s' hI) (fun r s2 q2 => ?_) fun _ _ x => x)
    rcases q2 with ⟨hr, q2⟩ | ⟨hr, q2⟩
    · subst hr
      wp_walk
      exact ⟨rfl, i + 1, hrest, h1, q2⟩
    · subst hr
      have q3 := ffin _ q2
      wp_walk
      exact q3
  case fin =>
    rintro ⟨b1, b2⟩ s' ⟨hb', i, hz, hi, hI⟩
    simp only at hb'
    subst hb'
    have hge : items.size ≤ i := by
      rcases Nat.lt_or_ge i (items.toList.zip items2.toList).length with h' | h'
      · rw [List.drop_eq_getElem_cons h'] at hz; cases hz
      · exact hZ ▸ h'
    have hi' : i = items.size := by omega
    have hR : R (.ok (.ret (.bool false))) s' := fin s' (hi' ▸ hI)
    wp_walk
    simpa [Builtin.Tuple.tupleCompareSizes, hsz] using hR
  case h =>
    exact ⟨rfl, 0, rfl, Nat.zero_le _, h0⟩
end
end GQB
namespace L2
open PySem PySem.Spec PyProof.Rows
/-- how two values compare, by the abstract heap: with an answer -/
abbrev EqvB := V → V → Hp → Bool → Prop
/-- items, up to the first that differ -/
inductive ItB (E : EqvB) (H : Hp) : List V → List V → Bool → Prop
  | nil : ItB E H [] [] true
  | cons {x y : V} {xs ys : List V} {b : Bool} : E x y H true → ItB E H xs ys b → ItB E H (x :: xs) (y :: ys) b
  | stop {x y : V} {xs ys : List V} : E x y H false → xs.length = ys.length → ItB E H (x :: xs) (y :: ys) false
theorem ItB.len {E : EqvB} {H : Hp} {xs ys : List V} {b : Bool} (h : ItB E H xs ys b) : xs.length = ys.length := by
  induction h with
  | nil => rfl
  | cons _ _ ih => rw [List.length_cons, List.length_cons, ih]
  | stop _ e => rw [List.length_cons, List.length_cons, e]
theorem ItB.at_ {E : EqvB} {H : Hp} {xs ys : List V} {b : Bool} (h : ItB E H xs ys b) :
    ∃ j, (b = true ↔ j = xs.length) ∧ j ≤ xs.length ∧ (∀ i x y, i < j → xs[i]? = some x → ys[i]? = some y → E x y H true) ∧ ∀ x y, xs[j]? = some x → ys[j]? = some y → E x y H false := by
  induction h with
  | nil => exact ⟨0, by simp, Nat.le_refl _, fun i x y hi => absurd hi (Nat.not_lt_zero _), fun x y h => by simp at h⟩
  | @cons x y xs ys b e _ ih =>
    obtain ⟨j, h1, h2, h3, h4⟩ := ih
    refine ⟨j + 1, by rw [h1, List.length_cons]; omega, by rw [List.length_cons]; omega, fun i u v hi hu hv => ?_, fun u v hu hv => h4 u v (by simpa using hu) (by simpa using hv)⟩
    cases i with
    | zero =>
      simp only [List.getElem?_cons_zero, Option.some.injEq] at hu hv
      subst hu hv
      exact e
    | succ i => exact h3 i u v (by omega) (by simpa using hu) (by simpa using hv)
  | @stop x y xs ys e _ =>
    refine ⟨0, by rw [List.length_cons]; constructor <;> intro h <;> (first | (cases h) | omega), Nat.zero_le _, fun i u v hi => absurd hi (Nat.not_lt_zero _), fun u v hu hv => ?_⟩
    simp only [List.getElem?_cons_zero, Option.some.injEq] at hu hv
    subst hu hv
    exact e
/-- == of items -/
def EqX (X : Cx) (n : Nat) (D : EqvB) : Prop :=
  ∀ (A : Around) (pins : List (Addr × Obj)) (s : Shared) (σ : St) (H : Hp) (x y : V) (u v : Value) (b : Bool), Sub X n A → Inv X pins σ H s → RelV x u → RelV y v → D x y H b →
    wpAny (model X.prog X.w) A (eqBool u v) (fun r s' => r = b ∧ ∃ H', Inv X pins σ H' s' ∧ Ext H H') X.xe s
/-- == or != at the top -/
def opE (neg : Bool) : CmpOp := if neg then .NotEq else .Eq
def RcX (X : Cx) (n : Nat) (neg : Bool) (D : EqvB) : Prop :=
  ∀ (A : Around) (pins : List (Addr × Obj)) (s : Shared) (σ : St) (H : Hp) (x y : V) (u v : Value) (b : Bool), Sub X n A → Inv X pins σ H s → RelV x u → RelV y v → D x y H b →
    wpAny (model X.prog X.w) A (richCompare (opE neg) u v) (fun r s' => r = .bool (neg != b) ∧ ∃ H', Inv X pins σ H' s' ∧ Ext H H') X.xe s
def MonB (D : EqvB) : Prop := ∀ x y H H' b, Ext H H' → D x y H b → D x y H' b
section
variable {X : Cx} {n m : Nat} {D : EqvB}
/-- the same, or flat -/
theorem z3o {D0 : Eqv} (h : EqG X n D0) : EqX X n (fun x y H b => (b = true ∧ D0 x y H) ∨ (flatV x = true ∧ flatV y = true ∧ eqV x y = b)) := by
  intro A pins s σ H x y u v b sb I rx ry d
  rcases d with ⟨rfl, d⟩ | ⟨fx, fy, e⟩
  · exact h A pins s σ H x y u v sb I rx ry d
  · have q := eqAt_V (A := A) (s := s) rx ry fx fy
    rw [e] at q
    exact q X.prog X.w X.xe _ ⟨rfl, H, I, Ext.rfl'⟩
def z40 (K : PySem.W.Frag) (E : EqvB) : EqvB := fun x y H b => ∃ p q xs ys, x = .ref p ∧ y = .ref q ∧ SqT K H p xs ∧ SqT K H q ys ∧ ItB E H xs ys b
theorem z18 (hD : MonB D) (h : EqX X n D) (neg : Bool) : RcX X (n + 1) neg (z40 X.K D) := by
  intro A pins s σ H x y u v b sb I rx ry d
  obtain ⟨p, q, xs, ys, rfl, rfl, ha, hb, it⟩ := d
  cases rx
  cases ry
  obtain ⟨its, r, e, z⟩ := I.tuple ha
  obtain ⟨its2, r2, e2, z2⟩ := I.tuple hb
  have hl := it.len
  have hsz : its.toArray.size = its2.toArray.size := by rw [List.size_toArray, List.size_toArray, ← r.length, ← r2.length]; exact hl
  obtain ⟨j, j1, j2, j3, j4⟩ := it.at_
  have turn : ∀ i (h1 : i < its.toArray.size) (h2 : i < its2.toArray.size) s', (LoopI X pins σ H s' ∧ i ≤ j) → wpAny (model X.prog X.w) A.in1 (eqBool its.toArray[i] its2.toArray[i]) (fun r s2 => (r = true ∧ (LoopI X pins σ H s2 ∧ i + 1 ≤ j)) ∨ (r = false ∧ (LoopI X pins σ H s2 ∧ b = false))) X.xe s' := by
    intro i h1 h2 s' l
    obtain ⟨⟨H1, I1, e1⟩, hij⟩ := l
    have g1 : its[i]? = some its.toArray[i] := by
      have h1' : i < its.length := by simpa using h1
      rw [List.getElem?_eq_getElem h1'] <;> simp
    have g2 : its2[i]? = some its2.toArray[i] := by
      have h2' : i < its2.length := by simpa using h2
      rw [List.getElem?_eq_getElem h2'] <;> simp
    have k1 : i < xs.length := by rw [r.length]; simpa using h1
    have k2 : i < ys.length := by rw [r2.length]; simpa using h2
    obtain ⟨u, hu, ru⟩ := r.get (List.getElem?_eq_getElem k1)
    obtain ⟨v, hv, rv⟩ := r2.get (List.getElem?_eq_getElem k2)
    rw [g1] at hu
    rw [g2] at hv
    rw [Option.some.inj hu, Option.some.inj hv]
    by_cases hlt : i < j
    · refine wpAny_mono (h A.in1 pins s' σ H1 _ _ u v true sb.in1 I1 ru rv (hD _ _ _ _ _ e1 (j3 i _ _ hlt (List.getElem?_eq_getElem k1) (List.getElem?_eq_getElem k2)))) (fun r s2 q => ?_) fun _ _ x => x
      obtain ⟨hr, H2, I2, e2⟩ := q
      exact .inl ⟨hr, ⟨H2, I2, e1.trans e2⟩, hlt⟩
    · have ej : i = j := by omega
      subst ej
      have hb' : b = false := by
        cases b with
        | false => rfl
        | true => exact absurd (j1.mp rfl) (by omega)
      refine wpAny_mono (h A.in1 pins s' σ H1 _ _ u v false sb.in1 I1 ru rv (hD _ _ _ _ _ e1 (j4 _ _ (List.getElem?_eq_getElem k1) (List.getElem?_eq_getElem k2)))) (fun r s2 q => ?_) fun _ _ x => x
      obtain ⟨hr, H2, I2, e2⟩ := q
      exact .inr ⟨hr, ⟨H2, I2, e1.trans e2⟩, hb'⟩
  have ft : ∀ s', (LoopI X pins σ H s' ∧ its.toArray.size ≤ j) → b = true := fun s' l => j1.mpr (by
    have := l.2
    rw [List.size_toArray, ← r.length] at this
    omega)
  obtain ⟨⟨cls, dd, data, sl⟩, ho, hc, n1, hd⟩ := id e
  obtain ⟨⟨cls2, dd2, data2, sl2⟩, ho2, hc2, n2, hd2⟩ := id e2
  simp only at hc hd hc2 hd2
  subst hc hd hc2 hd2
  cases neg with
  | false =>
    refine wpAny_richCompare_same_room (op := .Eq) ⟨_, ho, rfl⟩ ⟨_, ho2, rfl⟩ F.slot_tuple_eq (GQ.call_here F.slot_tuple_eq ⟨_, ho, rfl⟩ F.entry_tuple_eq (F.args_tuple_eq_2 _ _) ?_) sb.room.units0
    exact GQB.tuple_eqB p q its.toArray its2.toArray n1 n2 dd dd2 sl sl2 hsz (fun i s' => LoopI X pins σ H s' ∧ i ≤ j) (fun s' => LoopI X pins σ H s' ∧ b = false) turn
      (fun s' l => ⟨(fun x => nomatch x), by rw [ft s' l]; rfl, l.1⟩) (fun s' l => ⟨(fun x => nomatch x), by rw [l.2]; rfl, l.1⟩) ho ho2 ⟨⟨H, I, Ext.rfl'⟩, Nat.zero_le _⟩
  | true =>
    refine wpAny_richCompare_same_room (op := .NotEq) ⟨_, ho, rfl⟩ ⟨_, ho2, rfl⟩ F.slot_tuple_ne (GQ.call_here F.slot_tuple_ne ⟨_, ho, rfl⟩ F.entry_tuple_ne (F.args_tuple_ne_2 _ _) ?_) sb.room.units0
    exact GQB.tuple_neB p q its.toArray its2.toArray n1 n2 dd dd2 sl sl2 hsz (fun i s' => LoopI X pins σ H s' ∧ i ≤ j) (fun s' => LoopI X pins σ H s' ∧ b = false) turn
      (fun s' l => ⟨(fun x => nomatch x), by rw [ft s' l]; rfl, l.1⟩) (fun s' l => ⟨(fun x => nomatch x), by rw [l.2]; rfl, l.1⟩) ho ho2 ⟨⟨H, I, Ext.rfl'⟩, Nat.zero_le _⟩
/-- instances of the class at C with the text's own == -/
def z2m (C : Addr) (R : Addr → Addr → Hp → Bool → Prop) : EqvB := fun x y H b => ∃ p q dx dy fs gs, x = .ref p ∧ y = .ref q ∧ H p = some (.ins C dx fs) ∧ H q = some (.ins C dy gs) ∧ R p q H b
def zy0 (R : Addr → Addr → Hp → Bool → Prop) : Sp := fun vs H Q _ => ∃ p q b, vs = [.ref p, .ref q] ∧ R p q H b ∧ ∀ H', Ext H H' → Q (.bl b) H'
theorem z2n {CX : CXT} {C f : Addr} {fd : FuncData} {ps : List Str} {R : Addr → Addr → Hp → Bool → Prop} {E : XK} (F : FnOk X.prog X.w X.K X.mg X.base CX n f fd ps (zy0 R))
    (hs : PySem.W.findIn X.K (.ref C) "__eq__" = some (some (.ref f))) (hf : PySem.W.isFn X.K (.ref f) = true) (hb : Binds X.K fd ps []) (hx : Passes CX X E) : RcX X n false (z2m C R) := by
  intro A pins s σ H x y u v b sb I rx ry d
  obtain ⟨p, q, dx, dy, fs, gs, rfl, rfl, ha, hb', hr⟩ := d
  cases rx
  cases ry
  obtain ⟨mA, J, _⟩ := ins_get I.hok ha
  obtain ⟨mB, J', _⟩ := ins_get I.hok hb'
  obtain ⟨od, J, _⟩ := J.look
  obtain ⟨od', J', _⟩ := J'.look
  obtain ⟨m, hF⟩ := I.fr
  refine PySem.W.cmp_K (op := .Eq) (tb := .ref C) sb.room.units0 hF I.ok.mod.kin J J'.type (by simp [PySem.W.notFirst]) hs hf ?_
  have hsp : zy0 R [.ref p, .ref q] H (fun v H' => v = .bl b ∧ Ext H H') E := ⟨p, q, b, rfl, hr, fun H' e => ⟨rfl, e⟩⟩
  have e0 : Env0 X.prog X.w X.K X.mg X.base A X.stack s H := by
    have e := I.env0
    exact ⟨by rw [sb.fr]; exact e.frames, e.mod, e.bs, e.bsz, e.funs, e.frf, e.hok, e.bare⟩
  have hl := F.len _ _ _ _ hsp
  have r2 : Vals [V.ref p, V.ref q] [Value.ref p, Value.ref q] := .cons rfl (.cons rfl .nil)
  refine wpAny_call (codeAny_mono (F.run A X.stack s H ⟨[.ref p, .ref q], []⟩ [.ref p, .ref q] [.ref p, .ref q] _ E sb.room e0 (by
    have := hb s [.ref p, .ref q] I.kIn (by simpa using hl)
    simpa using this) r2 hsp) fun r s' hq => ?_)
  cases r with
  | error e => exact hx pins σ H s e s' I hq
  | ok fl =>
    cases fl with
    | ret w =>
      obtain ⟨z, H', I', rz, ez, ex⟩ := I.after hq
      subst ez
      cases rz
      exact ⟨by simp, H', I', ex⟩
    | next => exact False.elim hq
    | brk => exact False.elim hq
    | cont => exact False.elim hq
theorem z0k {CX : CXT} {C f : Addr} {fd : FuncData} {ps : List Str} {R : Addr → Addr → Hp → Bool → Prop} {E : XK} (F : FnOk X.prog X.w X.K X.mg X.base CX n f fd ps (zy0 R)) (hm : PySem.W.mroIn X.K C (.type "object") = some true) (hn : PySem.W.findIn X.K (.ref C) "__ne__" = some (some (.builtin "object.__ne__")))
    (hs : PySem.W.findIn X.K (.ref C) "__eq__" = some (some (.ref f))) (hf : PySem.W.isFn X.K (.ref f) = true) (hb : Binds X.K fd ps []) (hx : Passes CX X E) : RcX X (n + 1) true (z2m C R) := by
  intro A pins s σ H x y u v b sb I rx ry d
  obtain ⟨p, q, dx, dy, fs, gs, rfl, rfl, ha, hb', hr⟩ := d
  cases rx
  cases ry
  obtain ⟨mA, J, _⟩ := ins_get I.hok ha
  obtain ⟨mB, J', _⟩ := ins_get I.hok hb'
  obtain ⟨od, J, _⟩ := J.look
  obtain ⟨od', J', _⟩ := J'.look
  refine zyp (C := C) (f := f) sb.in1.room.units0 I.kIn J J' hm hn hs hf ?_
  have hsp : zy0 R [.ref p, .ref q] H (fun v H' => v = .bl b ∧ Ext H H') E := ⟨p, q, b, rfl, hr, fun H' e => ⟨rfl, e⟩⟩
  have e0 : Env0 X.prog X.w X.K X.mg X.base A.in1 X.stack s H := by
    have e := I.env0
    exact ⟨by rw [sb.in1.fr]; exact e.frames, e.mod, e.bs, e.bsz, e.funs, e.frf, e.hok, e.bare⟩
  have hl := F.len _ _ _ _ hsp
  have r2 : Vals [V.ref p, V.ref q] [Value.ref p, Value.ref q] := .cons rfl (.cons rfl .nil)
  refine wpAny_call (codeAny_mono (F.run A.in1 X.stack s H ⟨[.ref p, .ref q], []⟩ [.ref p, .ref q] [.ref p, .ref q] _ E sb.in1.room e0 (by
    have := hb s [.ref p, .ref q] I.kIn (by simpa using hl)
    simpa using this) r2 hsp) fun r s' hq => ?_)
  cases r with
  | error e => exact hx pins σ H s e s' I hq
  | ok fl =>
    cases fl with
    | ret w =>
      obtain ⟨z, H', I', rz, ez, ex⟩ := I.after hq
      subst ez
      cases rz
      exact ⟨b, rfl, by simp, H', I', ex⟩
    | next => exact False.elim hq
    | brk => exact False.elim hq
    | cont => exact False.elim hq
/-- x == y, x != y as an expression -/
def rEqX (neg : Bool) (D : EqvB) : R2 := fun x y H Q => ∃ b, D x y H b ∧ ∀ H', Ext H H' → Q (.bl (neg != b)) H'
theorem z1d {neg : Bool} (h : RcX X n neg D) (hr : Room n X.A) : OpR X (compareOp (opE neg)) (rEqX neg D) := by
  intro pins s σ H x y v u Q I rx ry hq
  obtain ⟨b, d, q⟩ := hq
  have go : wpAny (model X.prog X.w) X.A (richCompare (opE neg) v u) (EP X pins σ Q) X.xe s := by
    refine wpAny_mono (h X.A pins s σ H x y v u b ⟨hr, rfl⟩ I rx ry d) (fun r s' z => ?_) fun _ _ x => x
    obtain ⟨hr', H', I', e⟩ := z
    subst hr'
    exact ⟨.bl (neg != b), H', I', rfl, q H' e⟩
  cases neg with
  | false => exact go
  | true => exact go
end
end L2
namespace DL
open PySem PySem.Spec PyProof.Rows L2
/-- a class with an own ==, that says b of what P tells -/
structure EqBC (X : Cx) (m : Nat) (C : Addr) (P : D → D → Bool → Prop) : Prop where
  own : ∃ f fd ps sp, FnD X.prog X.w X.K X.mg X.base m f fd ps sp ∧ (∀ d e b G (Q : DVK), P d e b → Q (.bl b) G → sp [d, e] G Q) ∧ Meth X.K C "__eq__" f ∧ Binds X.K fd ps []
  ins : ∀ d e b, P d e b → ∃ fs ds gs es, d = .nd (.ins C fs) ds ∧ e = .nd (.ins C gs) es
/-- a class whose != is object's -/
structure NeC (K : PySem.W.Frag) (C : Addr) : Prop where
  mro : PySem.W.mroIn K C (.type "object") = some true
  ne : PySem.W.findIn K (.ref C) "__ne__" = some (some (.builtin "object.__ne__"))
section
variable {X : Cx} {m : Nat} {C : Addr} {P : D → D → Bool → Prop}
def RSmB (K : Ml) (P : D → D → Bool → Prop) (p q : Addr) (H : Hp) (b : Bool) : Prop := ∃ d e, VR K H noG d (.ref p) ∧ VR K H noG e (.ref q) ∧ P d e b
theorem z06 {f : Addr} {fd : FuncData} {ps : List Str} {sp : DRn} (F : FnD X.prog X.w X.K X.mg X.base m f fd ps sp) (hsp : ∀ d e b G (Q : DVK), P d e b → Q (.bl b) G → sp [d, e] G Q) : FnOk X.prog X.w X.K X.mg X.base CX0 m f fd ps (zy0 (RSmB X.ml P)) :=
  F.imp fun vs H Q E ⟨p, q, b, e, ⟨d, d', q1, q2, pp⟩, k⟩ => by
    subst e
    exact ⟨[d, d'], noG, fun x G' => x = .bl b, .cons q1 (.cons q2 .nil), .none_, hsp d d' b noG _ pp rfl, fun x G' v H' e1 xx rr qq => by
      subst e1
      rw [VR] at qq
      subst qq
      exact k H' fun a o h => (xx.ex a o h rfl).1⟩
def dEqI (P : D → D → Bool → Prop) (neg : Bool) : DR2 := fun x y G Q => ∃ b, P x y b ∧ Q (.bl (neg != b)) G
theorem zwf (hc : ∀ d e b, P d e b → ∃ fs ds gs es, d = .nd (.ins C fs) ds ∧ e = .nd (.ins C gs) es) {neg : Bool} {n : Nat} (h : RcX X n neg (z2m C (RSmB X.ml P))) (hr : Room n X.A) : OpD X (compareOp (opE neg)) (dEqI P neg) := fun pins s σ H x y v u Q I rx ry ⟨dx, dy, G, R, hh, q1, q2, ⟨b, p, t⟩, k⟩ => by
  refine z1d h hr pins s σ H x y v u Q I rx ry ⟨b, ?_, fun H' e => k (.bl (neg != b)) G (.bl (neg != b)) H' t (zk9 e) (hh.grow e) (by rw [VR])⟩
  obtain ⟨fs, ds, gs, es, rfl, rfl⟩ := hc _ _ _ p
  have q1' := q1.loose
  have q2' := q2.loose
  rw [VR] at q1 q2
  obtain ⟨a, vs, rfl, ⟨_, _, dx, h1⟩, r1⟩ := q1
  obtain ⟨c, ws, rfl, ⟨_, _, dy, h2⟩, r2⟩ := q2
  exact ⟨a, c, dx, dy, _, _, rfl, rfl, h1, h2, _, _, q1', q2', p⟩
theorem z05 (hr : Room m X.A) (hc : EqBC X m C P) : OpD X (compareOp .Eq) (dEqI P false) := by
  obtain ⟨f, fd, ps, sp, F, hsp, me, hb⟩ := hc.own
  exact zwf (neg := false) hc.ins (z2n (E := fun _ _ _ => False) (z06 F hsp) me.at_ me.fn hb zxk) hr
theorem zt0 (hr : Room (m + 1) X.A) (hc : EqBC X m C P) (hn : NeC X.K C) : OpD X (compareOp .NotEq) (dEqI P true) := by
  obtain ⟨f, fd, ps, sp, F, hsp, me, hb⟩ := hc.own
  exact zwf (neg := true) hc.ins (z0k (E := fun _ _ _ => False) (z06 F hsp) hn.mro hn.ne me.at_ me.fn hb zxk) hr
end
end DL
namespace DL
open PySem PySem.Spec PyProof.Rows L2
/-- trees that P tells are told equal to themselves -/
abbrev zr3 (X : Cx) (m : Nat) (P : D → Prop) : Prop := EqG X m (fun x y H => ∃ G d, HR X.ml H G ∧ VR X.ml H G d x ∧ VR X.ml H G d y ∧ P d)
section
variable {X : Cx} {m m2 : Nat} {C : Addr} {P P2 : D → Prop}
theorem z0h : zr3 X 0 (fun _ => False) := fun _ _ _ _ _ _ _ _ _ _ _ _ _ ⟨_, _, _, _, _, f⟩ => f.elim
theorem zwn (hc : EqC X m C P) : zr3 X m P := (zy5 hc).imp fun x y H ⟨G, d, hr, q1, q2, p⟩ => by
  obtain ⟨fs, ds, rfl⟩ := hc.ins d p
  have q1' := q1.loose
  have q2' := q2.loose
  rw [VR] at q1 q2
  obtain ⟨a, vs, rfl, ⟨_, _, dx, h1⟩, r1⟩ := q1
  obtain ⟨b, ws, rfl, ⟨_, _, dy, h2⟩, r2⟩ := q2
  exact ⟨a, b, dx, dy, _, _, rfl, rfl, h1, h2, _, q1', q2', p⟩
theorem z4k (h : zr3 X m P) (h2 : zr3 X m2 P2) : zr3 X (max m m2) (fun d => P d ∨ P2 d) :=
  ((EqG.mono h (Nat.le_max_left _ _)).or (EqG.mono h2 (Nat.le_max_right _ _))).imp fun x y H ⟨G, d, hr, q1, q2, p⟩ => p.elim (fun p => .inl ⟨G, d, hr, q1, q2, p⟩) fun p => .inr ⟨G, d, hr, q1, q2, p⟩
theorem zxu (ho : zr3 X m P) : ∀ n, EqG X (n + m) (DSm X.ml P n)
  | 0 => (eqG_flat.mono (Nat.zero_le _)).imp fun x y H ⟨G, d, hr, q1, q2, t⟩ => zv4 t q1 q2
  | n + 1 => by
    have ih := zxu ho n
    have e1 : EqG X (n + 1 + m) (DTup X.K (DSm X.ml P n)) := (eqG_tup zww ih).mono (by omega)
    have e2 := EqG.mono ho (show m ≤ n + 1 + m by omega)
    refine ((ih.mono (by omega)).or (e1.or e2)).imp fun x y H ⟨G, d, hr, q1, q2, t⟩ => ?_
    rcases t with t | ⟨ds, rfl, t⟩ | p
    · exact .inl ⟨G, d, hr, q1, q2, t⟩
    · rw [VR] at q1 q2
      obtain ⟨a, vs, rfl, h1, r1⟩ := q1
      obtain ⟨b, ws, rfl, h2, r2⟩ := q2
      exact .inr (.inl ⟨a, b, vs, ws, rfl, rfl, h1, h2, zrs hr r1 r2 t⟩)
    · exact .inr (.inr ⟨G, d, hr, q1, q2, p⟩)
/-- items of two tuples: the same trees, or numbers -/
inductive ItsT (P : D → Prop) (n : Nat) : List D → List D → Bool → Prop
  | nil : ItsT P n [] [] true
  | same {d : D} {ds es : List D} {b : Bool} : SmT P n d → ItsT P n ds es b → ItsT P n (d :: ds) (d :: es) b
  | int {i j : Int} {ds es : List D} {b : Bool} : ItsT P n ds es b → ItsT P n (.int i :: ds) (.int j :: es) (decide (i = j) && b)
theorem ItsT.len {n : Nat} {ds es : List D} {b : Bool} (h : ItsT P n ds es b) : ds.length = es.length := by
  induction h with
  | nil => rfl
  | same _ _ ih => rw [List.length_cons, List.length_cons, ih]
  | int _ ih => rw [List.length_cons, List.length_cons, ih]
def ItE (K : Ml) (P : D → Prop) (n : Nat) : EqvB := fun x y H b => (b = true ∧ DSm K P n x y H) ∨ (flatV x = true ∧ flatV y = true ∧ eqV x y = b)
theorem z25 {K : Ml} {n : Nat} : MonB (ItE K P n) := fun x y H H' b e h => h.elim (fun ⟨h1, h2⟩ => .inl ⟨h1, zww x y H H' e h2⟩) .inr
theorem z4a {K : Ml} {H : Hp} {G : DHp} {n : Nat} (hh : HR K H G) {ds es : List D} {b : Bool} (h : ItsT P n ds es b) : ∀ {vs ws : List V}, VRs K H G ds vs → VRs K H G es ws → ItB (ItE K P n) H vs ws b := by
  induction h with
  | nil =>
    intro vs ws r1 r2
    rw [VRs.nil_of r1, VRs.nil_of r2]
    exact .nil
  | same t _ ih =>
    intro vs ws r1 r2
    obtain ⟨v, vs', rfl, q1, r1⟩ := r1.uncons
    obtain ⟨w, ws', rfl, q2, r2⟩ := r2.uncons
    exact .cons (.inl ⟨rfl, G, _, hh, q1, q2, t⟩) (ih r1 r2)
  | @int i j ds es b t ih =>
    intro vs ws r1 r2
    obtain ⟨v, vs', rfl, q1, k1⟩ := r1.uncons
    obtain ⟨w, ws', rfl, q2, k2⟩ := r2.uncons
    rw [VR] at q1 q2
    subst q1 q2
    by_cases e : i = j
    · subst e
      rw [decide_eq_true rfl, Bool.true_and]
      exact .cons (.inr ⟨rfl, rfl, by simp [eqV]⟩) (ih k1 k2)
    · rw [decide_eq_false e, Bool.false_and]
      exact .stop (.inr ⟨rfl, rfl, by simp [eqV, e]⟩) (by rw [k1.length, k2.length]; exact t.len)
def zuz (P : D → Prop) (n : Nat) (neg : Bool) : DR2 := fun x y G Q => ∃ ds es b, x = .nd .tup ds ∧ y = .nd .tup es ∧ ItsT P n ds es b ∧ Q (.bl (neg != b)) G
theorem zy7 {n : Nat} (neg : Bool) (hr : Room (n + m + 1) X.A) (ho : zr3 X m P) : OpD X (compareOp (opE neg)) (zuz P n neg) := fun pins s σ H x y v u Q I rx ry ⟨dx, dy, G, R, hh, q1, q2, ⟨ds, es, b, e1, e2, t, p⟩, k⟩ => by
  subst e1 e2
  refine z1d (z18 z25 (z3o (zxu ho n)) neg) hr pins s σ H x y v u Q I rx ry ⟨b, ?_, fun H' e => k (.bl (neg != b)) G (.bl (neg != b)) H' p (zk9 e) (hh.grow e) (by rw [VR])⟩
  rw [VR] at q1 q2
  obtain ⟨a, vs, rfl, h1, r1⟩ := q1
  obtain ⟨c, ws, rfl, h2, r2⟩ := q2
  exact ⟨a, c, vs, ws, rfl, rfl, h1, h2, z4a hh t r1 r2⟩
theorem zxn {n : Nat} (hr : Room (n + m + 1) X.A) (ho : zr3 X m P) : OpD X (compareOp .Eq) (zuz P n false) := zy7 false hr ho
theorem zy2 {n : Nat} (hr : Room (n + m + 1) X.A) (ho : zr3 X m P) : OpD X (compareOp .NotEq) (zuz P n true) := zy7 true hr ho
end
end DL
namespace ZM
open PySem PySem.Spec PyProof.Rows L2
open PySem.Sem (wp)
/-- an iterator of zip's: its state at turn k (with that of the thing it walks), what it gives there -/
structure ZIt (prog : Program) (w : World) (A : Around) (it l : Addr) (st : Heap → Nat → Prop) (g : Nat → Option Value) : Prop where
  keep : ∀ {c h h' k}, c ≠ it → c ≠ l → Heap.ExtBut c h h' → st h k → st h' k
  more : ∀ {h h' k}, (∀ o, h.get? it = some o → h'.get? it = some o) → (∀ o, h.get? l = some o → h'.get? l = some o) → st h k → st h' k
  lt : ∀ {h k}, st h k → it < h.objs.size ∧ l < h.objs.size
  item : ∀ {s : Shared} {k x} {Q : Value → Shared → Prop} {E : Value → Shared → Prop}, st s.heap k → g k = some x →
    (∀ h', st h' (k + 1) → Heap.SameBut it s.heap h' → Q x { s with heap := h' }) → wpAny (model prog w) A (Builtin.SmallTypes.nextOf (.ref it)) Q E s
  stop : ∀ {s : Shared} {k} {Q : Value → Shared → Prop} {E : Value → Shared → Prop}, st s.heap k → g k = none →
    (∀ h' e, Heap.ExtBut it s.heap h' → (∃ o, h'.get? e = some o ∧ o.cls = .type "StopIteration") → E (.ref e) { s with heap := h' }) → wpAny (model prog w) A (Builtin.SmallTypes.nextOf (.ref it)) Q E s
section
variable {prog : Program} {w : World} {A : Around}
theorem zyf {it l : Addr} {xs : Array Value} (hh : A.handled = none) (n : l ≠ it) : ZIt prog w A it l (fun h k => h.IsTupleIter it l k ∧ h.IsTuple l xs) (fun k => xs[k]?) where
  keep := fun c1 c2 e st => ⟨st.1.extBut e c1.symm, st.2.extBut e c2.symm⟩
  more := fun e1 e2 st => ⟨st.1.at e1, st.2.at e2⟩
  lt := fun st => by
    obtain ⟨⟨_, e, _⟩, _, e2, _⟩ := st
    exact ⟨Heap.lt_size e, Heap.lt_size e2⟩
  item := fun st e k => RZ.nextOf_tuple_item st.1 st.2 e fun h' a b => k h' ⟨a, st.2.extBut b.extBut n⟩ b
  stop := fun st e k => RZ.nextOf_tuple_end hh st.1 st.2 e k
theorem zxq {it l : Addr} {xs : Array Value} (hh : A.handled = none) (n : l ≠ it) : ZIt prog w A it l (fun h k => h.IsListIter it l k ∧ h.IsList l xs) (fun k => xs[k]?) where
  keep := fun c1 c2 e st => ⟨st.1.extBut e c1.symm, st.2.extBut e c2.symm⟩
  more := fun e1 e2 st => ⟨st.1.at e1, st.2.at e2⟩
  lt := fun st => by
    obtain ⟨⟨_, e, _⟩, _, e2, _⟩ := st
    exact ⟨Heap.lt_size e, Heap.lt_size e2⟩
  item := fun st e k => wpAny_nextOf_list_item st.1 st.2 e fun h' a b => k h' ⟨a, st.2.extBut b.extBut n⟩ b
  stop := fun st e k => wpAny_nextOf_list_end hh st.1 st.2 e k
variable {E : Value → Shared → Prop} {s : Shared}
/-- what a turn of zip leaves: all but its own four cells -/
abbrev But4 (z TO i1 i2 : Addr) (h h' : Heap) : Prop := ∀ c o, c ≠ z → c ≠ TO → c ≠ i1 → c ≠ i2 → h.get? c = some o → h'.get? c = some o
/-- one turn of zip: either both give something (a new pair of it), or one is at its end -/
theorem z0v {z TI TO i1 i2 l1 l2 : Addr} {st1 st2 : Heap → Nat → Prop} {g1 g2 : Nat → Option Value} {k : Nat} {a b : Value} {Q : Value → Shared → Prop}
    (Z1 : ZIt prog w A i1 l1 st1 g1) (Z2 : ZIt prog w A i2 l2 st2 g2) (D : ZipApart z TI TO i1 i2 l1 l2)
    (hz : IsZip s.heap z TI TO .none) (hTI : IsPair s.heap TI (.ref i1) (.ref i2)) (hTO : IsPair s.heap TO a b) (h1 : st1 s.heap k) (h2 : st2 s.heap k)
    (go : ∀ x y h', g1 k = some x → g2 k = some y → IsZip h' z TI TO (rawInt s.heap.objs.size) → IsPair h' TO x y → st1 h' (k + 1) → st2 h' (k + 1) → IsPair h' s.heap.objs.size x y → But4 z TO i1 i2 s.heap h' → Q (.ref s.heap.objs.size) { s with heap := h' })
    (stop : ∀ h' e, g1 k = none ∨ g2 k = none → But4 z TO i1 i2 s.heap h' → (∃ o, h'.get? e = some o ∧ o.cls = .type "StopIteration") → E (.ref e) { s with heap := h' }) :
    wpAny (model prog w) A (Builtin.«zip.__next__» ⟨[.ref z], []⟩) (fun fin s' => ∃ v, fin = .done (.ret v) ∧ Q v s') E s := by
  -- the zip's own fields
  show wpAny _ _ (field (.ref z) 2 >>= _) _ _ _
  refine wpAny_bind (wpAny_field hz rfl (x := .bool false) rfl ?_)
  show wpAny _ _ (field (.ref z) 3 >>= _) _ _ _
  refine wpAny_bind (wpAny_field hz rfl (x := .ref TI) rfl (wpAny_bind (wpAny_seqItems hTI rfl ?_)))
  show wpAny _ _ (Builtin.SmallTypes.ownedTupleIsFree (.ref z) >>= _) _ _ _
  unfold Builtin.SmallTypes.ownedTupleIsFree
  refine wpAny_bind (wpAny_bind (wpAny_field hz rfl (x := .none) rfl (wpAny_pure ?_)))
  rw [if_pos rfl]
  refine wpAny_bind (wpAny_rule (wpAny_bind (wpAny_field hz rfl (x := .ref TO) rfl (wpAny_bind (wpAny_setField_rec hz (by simp) fun ha za sa => ?_)))))
  replace za : IsZip ha z TI TO .ellipsis := za
  have a1 : st1 ha k := Z1.keep D.i1z.symm D.l1z.symm sa.extBut h1
  have a2 : st2 ha k := Z2.keep D.i2z.symm D.l2z.symm sa.extBut h2
  refine wpAny_bind ?_
  simp only [List.zipIdx_cons, List.zipIdx_nil, List.forIn_cons, List.forIn_nil]
  -- a draw that is at its end
  have fin : ∀ (hx hy : Heap) (e it : Addr), it ≠ z → Heap.ExtBut it hx hy → IsZip hx z TI TO .ellipsis → (∃ o, hy.get? e = some o ∧ o.cls = .type "StopIteration") → But4 z TO i1 i2 s.heap hx → (it = i1 ∨ it = i2) → (g1 k = none ∨ g2 k = none) →
      wpAny (model prog w) A (setField (.ref z) 0 .none) (fun _ s' => E (.ref e) s') E { s with heap := hy } := by
    intro hx hy e it n x zx ⟨oe, he, hc⟩ k4 hi hn
    have zy : IsZip hy z TI TO .ellipsis := x _ _ n.symm zx
    have ez : e ≠ z := by
      rintro rfl
      rw [zy] at he
      cases he
      simp at hc
    refine wpAny_setField_rec zy (by simp) fun hw _ sw => stop hw e hn (fun c o c1 c2 c3 c4 q => sw.extBut _ _ c1 (x _ _ (by rcases hi with r | r <;> rw [r] <;> assumption) (k4 c o c1 c2 c3 c4 q))) ⟨oe, sw.extBut _ _ ez he, hc⟩
  refine wpAny_bind (wpAny_bind (wpAny_onRaise ?_))
  show wpAny _ _ (Builtin.SmallTypes.nextOf (.ref i1) >>= _) _ _ _
  have ka : But4 z TO i1 i2 s.heap ha := fun c o c1 _ _ _ q => sa.extBut _ _ c1 q
  cases hx : g1 k with
  | none => exact wpAny_bind (Z1.stop a1 hx fun hb e x he => fin ha hb e i1 D.i1z x za he ka (.inl rfl) (.inl hx))
  | some x =>
    refine wpAny_bind (Z1.item a1 hx fun hb b1 sb => wpAny_pure ?_)
    have zb : IsZip hb z TI TO .ellipsis := sb.extBut _ _ D.i1z.symm za
    have pb : IsPair hb TO a b := sb.extBut _ _ D.TOi1 (sa.extBut _ _ D.TOz hTO)
    refine wpAny_bind (wpAny_seqItems pb rfl (wpAny_bind (wpAny_updateSeq_pair pb fun hc pc sc => wpAny_bind (wpAny_letGo (wpAny_pure ?_)))))
    replace pc : IsPair hc TO x b := pc
    have zc : IsZip hc z TI TO .ellipsis := sc.extBut _ _ D.TOz.symm zb
    have c2 : st2 hc k := Z2.keep D.TOi2 D.l2TO.symm sc.extBut (Z2.keep D.i12 D.l2i1.symm sb.extBut a2)
    have kc : But4 z TO i1 i2 s.heap hc := fun c o c1 c2 c3 c4 q => sc.extBut _ _ c2 (sb.extBut _ _ c3 (ka c o c1 c2 c3 c4 q))
    refine wpAny_bind (wpAny_bind (wpAny_onRaise ?_))
    show wpAny _ _ (Builtin.SmallTypes.nextOf (.ref i2) >>= _) _ _ _
    cases hy : g2 k with
    | none => exact wpAny_bind (Z2.stop c2 hy fun hd e x he => fin hc hd e i2 D.i2z x zc he kc (.inr rfl) (.inr hy))
    | some y =>
      refine wpAny_bind (Z2.item c2 hy fun hd d2 sd => wpAny_pure ?_)
      have pd : IsPair hd TO x b := sd.extBut _ _ D.TOi2 pc
      refine wpAny_bind (wpAny_seqItems pd rfl (wpAny_bind (wpAny_updateSeq_pair pd fun he pe se => wpAny_bind (wpAny_letGo (wpAny_pure (wpAny_pure ?_))))))
      replace pe : IsPair he TO x y := pe
      have ze : IsZip he z TI TO .ellipsis := se.extBut _ _ D.TOz.symm (sd.extBut _ _ D.i2z.symm zc)
      have e1 : st1 he (k + 1) := Z1.keep D.TOi1 D.l1TO.symm se.extBut (Z1.keep D.i12.symm D.l1i2.symm sd.extBut (Z1.keep D.TOi1 D.l1TO.symm sc.extBut b1))
      have e2 : st2 he (k + 1) := Z2.keep D.TOi2 D.l2TO.symm se.extBut d2
      have ke : But4 z TO i1 i2 s.heap he := fun c o c1 c2 c3 c4 q => se.extBut _ _ c2 (sd.extBut _ _ c4 (kc c o c1 c2 c3 c4 q))
      have hsz : he.objs.size = s.heap.objs.size := by rw [se.1, sd.1, sc.1, sb.1, sa.1]
      refine wpAny_bind (wpAny_seqItems pe rfl (wpAny_bind (wpAny_newTuple ?_)))
      show wpAny _ _ (Builtin.SmallTypes.ownedTupleHandOut (.ref z) (.ref he.objs.size) >>= _) _ _ _
      unfold Builtin.SmallTypes.ownedTupleHandOut
      refine wpAny_bind ?_
      have zf : IsZip (he.push { cls := .type "tuple", data := .seq #[x, y] }) z TI TO .ellipsis := Heap.get?_push_of_some _ ze
      refine wpAny_bind (wpAny_setField_rec zf (by simp) fun hg zg sg => ?_)
      replace zg : IsZip hg z TI TO (rawInt he.objs.size) := zg
      refine wpAny_setField_rec zg (by simp) fun hw zw sw => ?_
      have up : ∀ c o, c ≠ z → he.get? c = some o → hw.get? c = some o := fun c o n q => sw.extBut _ _ n (sg.extBut _ _ n (Heap.get?_push_of_some _ q))
      have zlt : z < he.objs.size := Heap.lt_size ze
      have pT : IsPair hw he.objs.size x y := sw.extBut _ _ (Nat.ne_of_gt zlt) (sg.extBut _ _ (Nat.ne_of_gt zlt) (Heap.get?_push_size _ rfl))
      replace zw : IsZip hw z TI TO (rawInt he.objs.size) := zw
      rw [hsz] at pT zw
      refine wpAny_pure ⟨_, rfl, ?_⟩
      rw [hsz]
      exact go x y hw hx hy zw (up _ _ D.TOz pe) (Z1.more (fun o q => up _ o D.i1z q) (fun o q => up _ o D.l1z q) e1) (Z2.more (fun o q => up _ o D.i2z q) (fun o q => up _ o D.l2z q) e2) pT fun c o c1 c2 c3 c4 q => up c o c1 (ke c o c1 c2 c3 c4 q)
theorem zwj {z TI TO i1 i2 l1 l2 : Addr} {st1 st2 : Heap → Nat → Prop} {g1 g2 : Nat → Option Value} {k : Nat} {a b : Value} {Q : Option Value → Shared → Prop}
    (Z1 : ZIt prog w A.in1 i1 l1 st1 g1) (Z2 : ZIt prog w A.in1 i2 l2 st2 g2) (D : ZipApart z TI TO i1 i2 l1 l2)
    (hz : IsZip s.heap z TI TO .none) (hTI : IsPair s.heap TI (.ref i1) (.ref i2)) (hTO : IsPair s.heap TO a b) (h1 : st1 s.heap k) (h2 : st2 s.heap k)
    (go : ∀ x y h', g1 k = some x → g2 k = some y → IsZip h' z TI TO (rawInt s.heap.objs.size) → IsPair h' TO x y → st1 h' (k + 1) → st2 h' (k + 1) → IsPair h' s.heap.objs.size x y → But4 z TO i1 i2 s.heap h' → Q (some (.ref s.heap.objs.size)) { s with heap := h' })
    (stop : ∀ h', g1 k = none ∨ g2 k = none → But4 z TO i1 i2 s.heap h' → Q none { s with heap := h' }) : wpAny (model prog w) A (pyNext (.ref z)) Q E s := by
  have hT : s.TypeIs (.ref z) "zip" := ⟨_, hz, rfl⟩
  unfold pyNext
  refine wpAny_bind (wpAny_attempt (wpAny_callSpecial?_slot (name := Str.ofString "__next__") hT F.slot_zip_next (wpAny_call_entry F.slot_zip_next hT F.entry_zip_next ?_ (F.args_zip_next_1 _))))
  refine z0v Z1 Z2 D hz hTI hTO h1 h2 (fun x y h' e1 e2 p1 p2 p3 p4 p5 p6 => wpAny_pure (go x y h' e1 e2 p1 p2 p3 p4 p5 p6)) fun h' e n k4 ⟨o, ho, hc⟩ => ?_
  exact wpAny_bind (wpAny_isInstance (T := "StopIteration") (b := true) ⟨o, ho, hc⟩ isSubtype_stop (wpAny_pure (stop h' n k4)))
/-- the heap with zip's five cells behind it -/
def made (h : Heap) (l1 l2 : Addr) : Heap :=
  ((((h.push { cls := .type "tuple_iterator", data := .fields #[.ref l1, .int 0 0] }).push { cls := .type "list_iterator", data := .fields #[.ref l2, .int 0 0] }).push
    { cls := .type "tuple", data := .seq #[.ref h.objs.size, .ref (h.objs.size + 1)] }).push { cls := .type "tuple", data := .seq #[.none, .none] }).push
    { cls := .type "zip", data := .fields #[.none, .bool false, .bool false, .ref (h.objs.size + 2), .ref (h.objs.size + 3)] }
theorem z1w (l1 l2 : Addr) (xs ys : Array Value) :
    Meets (Builtin.«zip.__new__» ⟨[.type "zip", .ref l1, .ref l2], []⟩) (fun _ R s => s.heap.IsTuple l1 xs ∧ s.heap.IsList l2 ys ∧ R (.ok (.ret (.ref (s.heap.objs.size + 4)))) { s with heap := made s.heap l1 l2 }) :=
  .of_wp fun prog w A R s h => by
    obtain ⟨hp, g, d, tk, os⟩ := s
    obtain ⟨a1, a2, h⟩ := h
    have hsub := sub_zip
    have b1 : Heap.IsTuple (Shared.heap ⟨hp, g, d, tk, os⟩) l1 xs := a1
    have b2 : Heap.IsList (Shared.heap ⟨hp.push { cls := .type "tuple_iterator", data := .fields #[.ref l1, .int 0 0] }, g, d, tk, os⟩) l2 ys := Heap.IsList.push a2 _
    unfold made at h
    wp_walk using wpAny_pyIter_tuple b1, wpAny_pyIter_list b2
    simp only [Heap.size_push]
    exact ⟨_, rfl, h⟩
theorem five (h : Heap) (o0 o1 o2 o3 o4 : Obj) (f0 : o0.isFreed = false) (f1 : o1.isFreed = false) (f2 : o2.isFreed = false) (f3 : o3.isFreed = false) (f4 : o4.isFreed = false) (h' : Heap) (e : h' = ((((h.push o0).push o1).push o2).push o3).push o4) :
    h'.get? h.objs.size = some o0 ∧ h'.get? (h.objs.size + 1) = some o1 ∧ h'.get? (h.objs.size + 2) = some o2 ∧ h'.get? (h.objs.size + 3) = some o3 ∧ h'.get? (h.objs.size + 4) = some o4 ∧ ∀ c o, h.get? c = some o → h'.get? c = some o := by
  subst e
  have s1 : (h.push o0).objs.size = h.objs.size + 1 := Heap.size_push ..
  have s2 : ((h.push o0).push o1).objs.size = h.objs.size + 2 := by rw [Heap.size_push, s1]
  have s3 : (((h.push o0).push o1).push o2).objs.size = h.objs.size + 3 := by rw [Heap.size_push, s2]
  have s4 : ((((h.push o0).push o1).push o2).push o3).objs.size = h.objs.size + 4 := by rw [Heap.size_push, s3]
  have g1 : ((h.push o0).push o1).get? (h.objs.size + 1) = some o1 := by rw [← s1]; exact Heap.get?_push_size _ f1
  have g2 : (((h.push o0).push o1).push o2).get? (h.objs.size + 2) = some o2 := by rw [← s2]; exact Heap.get?_push_size _ f2
  have g3 : ((((h.push o0).push o1).push o2).push o3).get? (h.objs.size + 3) = some o3 := by rw [← s3]; exact Heap.get?_push_size _ f3
  have g4 : (((((h.push o0).push o1).push o2).push o3).push o4).get? (h.objs.size + 4) = some o4 := by rw [← s4]; exact Heap.get?_push_size _ f4
  exact ⟨Heap.get?_push_of_some _ (Heap.get?_push_of_some _ (Heap.get?_push_of_some _ (Heap.get?_push_of_some _ (Heap.get?_push_size _ f0)))), Heap.get?_push_of_some _ (Heap.get?_push_of_some _ (Heap.get?_push_of_some _ g1)), Heap.get?_push_of_some _ (Heap.get?_push_of_some _ g2), Heap.get?_push_of_some _ g3, g4,
    fun c o x => Heap.get?_push_of_some _ (Heap.get?_push_of_some _ (Heap.get?_push_of_some _ (Heap.get?_push_of_some _ (Heap.get?_push_of_some _ x))))⟩
theorem zzk {l1 l2 : Addr} {xs ys : Array Value} {Q : Value → Shared → Prop} (hl1 : s.heap.IsTuple l1 xs) (hl2 : s.heap.IsList l2 ys)
    (h : ∀ h' n, s.heap.objs.size = n → IsZip h' (n + 4) (n + 2) (n + 3) .none → IsPair h' (n + 2) (.ref n) (.ref (n + 1)) → IsPair h' (n + 3) .none .none → h'.IsTupleIter n l1 0 → h'.IsListIter (n + 1) l2 0 →
      (∀ c o, s.heap.get? c = some o → h'.get? c = some o) → Q (.ref (n + 4)) { s with heap := h' }) :
    wpAny (model prog w) A (call (.type "zip") [.ref l1, .ref l2]) Q E s := by
  refine callType_new F.called_zip (by decide) (F.typeCall_zip_2 _ _) (F.newCall_zip_2 _ _) (fun obj => F.args_object_init_3 obj _ _) F.entry_zip_new (z1w l1 l2 xs ys) ⟨hl1, hl2, ?_⟩
  obtain ⟨g0, g1, g2, g3, g4, k⟩ := five s.heap _ _ _ _ _ rfl rfl rfl rfl rfl (made s.heap l1 l2) rfl
  generalize made s.heap l1 l2 = m at *
  generalize hn : s.heap.objs.size = n at *
  exact ⟨⟨_, g4, rfl⟩, h m n rfl g4 g2 g3 ⟨_, g0, rfl, rfl⟩ ⟨_, g1, rfl, rfl⟩ k⟩
/-- the tuple at a and the list at b as they stand at each turn, the items in new pairs -/
def Itz (K : PySem.W.Frag) (a b : Addr) : It :=
  ⟨fun i H => ∃ (xs ys : List V) (x y : V), SqT K H a xs ∧ SqL K H b ys ∧ xs[i]? = some x ∧ ys[i]? = some y,
    fun i H v H' => ∃ T x y, v = .ref T ∧ H T = none ∧ H' = upd H T (.tup [x, y]) ∧ (∀ xs, SqT K H a xs → xs[i]? = some x) ∧ ∀ ys, SqL K H b ys → ys[i]? = some y,
    fun i H => ∃ xs ys : List V, SqT K H a xs ∧ SqL K H b ys ∧ (xs.length ≤ i ∨ ys.length ≤ i)⟩
/-- zip's cells as they stand between two turns -/
structure Zs (a b z TI TO i1 i2 : Addr) (i : Nat) (h : Heap) : Prop where
  hz : IsZip h z TI TO .none
  hp : IsPair h TI (.ref i1) (.ref i2)
  ho : ∃ x y, IsPair h TO x y
  h1 : h.IsTupleIter i1 a i
  h2 : h.IsListIter i2 b i
theorem Zs.lt {a b z TI TO i1 i2 : Addr} {i : Nat} {h : Heap} (Z : Zs a b z TI TO i1 i2 i h) : ∀ c ∈ [z, TI, TO, i1, i2], c < h.objs.size := by
  obtain ⟨hz, hp, ⟨x, y, ho⟩, ⟨_, h1, _⟩, ⟨_, h2, _⟩⟩ := Z
  intro c hc
  simp only [List.mem_cons, List.not_mem_nil, or_false] at hc
  rcases hc with rfl | rfl | rfl | rfl | rfl
  · exact Heap.lt_size hz
  · exact Heap.lt_size hp
  · exact Heap.lt_size ho
  · exact Heap.lt_size h1
  · exact Heap.lt_size h2
theorem But4.in {z TI TO i1 i2 : Addr} {h h' : Heap} (k : But4 z TO i1 i2 h h') : ∀ c o, c ∉ [z, TI, TO, i1, i2] → h.get? c = some o → h'.get? c = some o := fun c o n q => by
  simp only [List.mem_cons, List.not_mem_nil, or_false, not_or] at n
  exact k c o n.1 n.2.2.1 n.2.2.2.1 n.2.2.2.2 q
theorem z10 {P : Program} {w : World} {K : PySem.W.Frag} {elts : List Expr} {kk : Nat} {tpos : Pos} {a b z TI TO i1 i2 : Addr} (D : ZipApart z TI TO i1 i2 a b) :
    Turn P w K (.Tuple elts kk tpos) (Itz K a b) [z, TI, TO, i1, i2] z (Zs a b z TI TO i1 i2) where
  mem := .head _
  obj := fun i h ⟨hz, hp, ⟨x, y, ho⟩, ⟨o1, e1, _, d1⟩, ⟨o2, e2, _, d2⟩⟩ c hc => by
    simp only [List.mem_cons, List.not_mem_nil, or_false] at hc
    rcases hc with rfl | rfl | rfl | rfl | rfl
    · exact ⟨_, hz, fun _ q => (nomatch q)⟩
    · exact ⟨_, hp, fun _ q => (nomatch q)⟩
    · exact ⟨_, ho, fun _ q => (nomatch q)⟩
    · exact ⟨_, e1, fun _ q => by rw [d1] at q; cases q⟩
    · exact ⟨_, e2, fun _ q => by rw [d2] at q; cases q⟩
  keep := fun i h h' ⟨hz, hp, ⟨x, y, ho⟩, h1, h2⟩ k =>
    ⟨k _ (by simp) _ hz, k _ (by simp) _ hp, ⟨x, y, k _ (by simp) _ ho⟩, h1.at fun o q => k _ (by simp) o q, h2.at fun o q => k _ (by simp) o q⟩
  item := by
    intro X hP hw hK hc i pins s σ H E I hf Z ⟨xs, ys, x, y, qx, qy, ex, ey⟩
    subst hP hw hK
    obtain ⟨us, ru, pu, _⟩ := I.tuple qx
    obtain ⟨ws, rw', pw, _⟩ := I.list qy
    obtain ⟨u, eu, r1⟩ := ru.get ex
    obtain ⟨v, ev, r2⟩ := rw'.get ey
    have lt := Z.lt
    obtain ⟨hz, hp, ⟨x0, y0, ho⟩, h1, h2⟩ := Z
    refine zwj (zyf (I.ok.hd hc) D.l1i1) (zxq (I.ok.hd hc) D.l2i2) D hz hp ho ⟨h1, pu⟩ ⟨h2, pw.isList⟩ (fun x' y' h' e1 e2 z' o' n1 n2 T' k4 => ?_) fun h' n _ => ?_
    · obtain rfl : u = x' := Option.some.inj ((by simpa using eu : us.toArray[i]? = some u).symm.trans e1)
      obtain rfl : v = y' := Option.some.inj ((by simpa using ev : ws.toArray[i]? = some v).symm.trans e2)
      refine ⟨_, rfl, wpAny_letOwnedTupleGo_zip (s := { s with heap := h' }) z' fun h'' z'' sb => ?_⟩
      have up : ∀ {c o}, c ≠ z → h'.get? c = some o → h''.get? c = some o := fun n q => (sb.2 _ n).trans q
      have T2 : h''.get? s.heap.objs.size = some { cls := .type "tuple", data := .seq #[u, v] } := up (Nat.ne_of_gt (lt z (.head _))) T'
      have fresh : ObjOk X.prog X.w (upd H s.heap.objs.size (.tup [x, y])) h'' s.heap.objs.size (.tup [x, y]) := ⟨by show 2 ≤ sizeLine; decide, [u, v], .cons r1 (.cons r2 .nil), ⟨_, T2, rfl, _, rfl⟩⟩
      refine ⟨.ref s.heap.objs.size, _, I.turnedNew (t' := s.toks) (ch := [z, TI, TO, i1, i2]) (fun c o hb q => up (fun e => hb (by simp [e])) (k4.in c o hb q)) hf (Nat.le_refl _) fresh, rfl,
        ⟨_, x, y, rfl, I.hok.fresh (Nat.le_refl _), rfl, fun l hl => by rw [I.tuple_inj hl qx]; exact ex, fun l hl => by rw [I.list_inj hl qy]; exact ey⟩,
        ⟨z'', up D.TIz (k4 _ _ D.TIz D.TITO D.TIi1 D.TIi2 hp), ⟨u, v, up D.TOz o'⟩, n1.1.at fun o q => up D.i1z q, n2.1.at fun o q => up D.i2z q⟩, fun c hcm => ?_⟩
      rw [upd_ne (Nat.ne_of_lt (lt c hcm))]
      exact (hf c hcm).1
    · have l1 : us.toArray[i]? = some u := by simpa using eu
      have l2 : ws.toArray[i]? = some v := by simpa using ev
      rcases n with n | n
      · rw [l1] at n; cases n
      · rw [l2] at n; cases n
  done := by
    intro X hP hw hK hc i pins s σ H E I hf ⟨hz, hp, ⟨x0, y0, ho⟩, h1, h2⟩ ⟨xs, ys, qx, qy, hend⟩
    subst hP hw hK
    obtain ⟨us, ru, pu, _⟩ := I.tuple qx
    obtain ⟨ws, rw', pw, _⟩ := I.list qy
    have l1 := ru.length
    have l2 := rw'.length
    refine zwj (zyf (I.ok.hd hc) D.l1i1) (zxq (I.ok.hd hc) D.l2i2) D hz hp ho ⟨h1, pu⟩ ⟨h2, pw.isList⟩ (fun x' y' h' e1 e2 _ _ _ _ _ _ => ?_) fun h' _ k4 => ⟨rfl, I.turnedL (t' := s.toks) (ch := [z, TI, TO, i1, i2]) k4.in hf⟩
    obtain ⟨e1, _⟩ := Array.getElem?_eq_some_iff.mp e1
    obtain ⟨e2, _⟩ := Array.getElem?_eq_some_iff.mp e2
    rw [List.size_toArray] at e1 e2
    omega
  self := fun i A s Q E Z h => wpAny_pyIter_zip Z.hz h
def iZip (K : PySem.W.Frag) (ta : TA) : TI := fun σ H R => ta σ H fun vs H1 => ∃ a b xs ys, vs = [.ref a, .ref b] ∧ SqT K H1 a xs ∧ SqL K H1 b ys ∧ R (Itz K a b) H1
theorem pi_zip {X : Cx} {e e2 : Expr} {ta : TA} {p pos tpos : Pos} {elts : List Expr} {kk : Nat} (hg : Gl X "zip") (hm : X.mg "zip" = none) (ha : PA X [e, e2] ta)
    (hs : starEach [e, e2] X.env = (false, eval e X.env) :: starEach [e2] X.env := by rfl) (hpl : (backTo pos (starEach [e2] X.env)).any (·.1) = false := by rfl) :
    PI X (.Tuple elts kk tpos) (.Call (.Name "zip" p) [e, e2] [] pos) (iZip X.K ta) := by
  refine ⟨fun pins s σ H R I h => ?_⟩
  refine Call_ (ld_blt I hg hm PyProof.Rows.boot_zip (PyProof.Rows.callWith_type1 (thn (ha.run pos pins s σ H _ I h) fun us s1 ⟨vs, H1, I1, r1, q1⟩ => ?_) hs hpl))
  obtain ⟨a, b, xs, ys, rfl, qx, qy, q⟩ := q1
  obtain ⟨u1, u2, rfl, ra, rb⟩ := vals2 r1
  cases ra
  cases rb
  obtain ⟨its, _, pu, _⟩ := I1.tuple qx
  obtain ⟨its2, _, pw, _⟩ := I1.list qy
  have la : a < s1.heap.objs.size := by
    obtain ⟨o, e, _⟩ := id pu
    exact Heap.lt_size e
  have lb : b < s1.heap.objs.size := pw.lt
  refine zzk (show s1.heap.IsTuple a its.toArray from pu) pw.isList fun h' n en z1 z2 z3 z4 z5 k => wpAny_pyIter_zip z1 ?_
  rw [en] at la lb
  have fr : ∀ c, c ∈ [n + 4, n + 2, n + 3, n, n + 1] → FpOk X pins H1 c := fun c hc => by
    have le : s1.heap.objs.size ≤ c := by
      simp only [List.mem_cons, List.not_mem_nil, or_false] at hc
      rw [en]
      omega
    exact I1.fpOk le (I1.hok.fresh le)
  exact ⟨n + 4, [n + 4, n + 2, n + 3, n, n + 1], _, _, H1, rfl, I1.kept (t' := s1.toks) k, z10 (PySem.W.ktu_apart n a b la lb), ⟨z1, z2, ⟨_, _, z3⟩, z4, z5⟩, fr, q⟩
end
end ZM
namespace DL
open PySem PySem.Spec PyProof.Rows L2
/-- zip of a tuple and a list -/
def zxp (T : DTA) : DTI := fun η G R => T η G fun ds G1 => match ds with
  | [.nd .tup xs, .nd .lst ys] => R (zipL xs ys) zco G1
  | _ => False
theorem itzM {K : Ml} {H1 : Hp} {G1 : DHp} {a b : Addr} {xs ys : List D} (h : ∀ H G, Ext H1 G1 H G → HR K H G → ∃ vs ws, SqT K.K H a vs ∧ SqL K.K H b ws ∧ VRs K H G xs vs ∧ VRs K H G ys ws) : ItD K H1 G1 (ZM.Itz K.K a b) (zipL xs ys) zco := by
  intro i H G x r o
  obtain ⟨vs, ws, qa, qb, va, vb⟩ := h H G x r
  refine ⟨fun d e => ?_, fun l => ⟨vs, ws, qa, qb, by rw [va.length, vb.length]; exact zpp l⟩⟩
  obtain ⟨p, q, e1, e2, rfl⟩ := zsi e
  obtain ⟨u, g1, r1⟩ := va.get e1
  obtain ⟨u2, g2, r2⟩ := vb.get e2
  refine ⟨⟨vs, ws, u, u2, qa, qb, g1, g2⟩, fun y H' ⟨T, z1, z2, e3, hT, e5, k1, k2⟩ => ?_⟩
  subst e3 e5
  have e6 := k1 vs qa
  have e7 := k2 ws qb
  rw [g1] at e6; cases e6
  rw [g2] at e7; cases e7
  have x2 : Ext H G (upd H T (.tup [u, u2])) G := .laid hT
  refine ⟨x2, r.laid hT, ?_⟩
  rw [VR]
  exact ⟨T, _, rfl, .inl (.inl upd_same), .cons (r1.ext r x2) (.cons (r2.ext r x2) .nil)⟩
theorem zzx [Bs] {X : Cx} {e e2 : Expr} {T : DTA} {p pos tpos : Pos} {elts : List Expr} {kk : Nat} (hm : X.mg "zip" = none) (ha : PAD X [e, e2] T) (hg : Gl X "zip" := by rfl)
    (hs : starEach [e, e2] X.env = (false, eval e X.env) :: starEach [e2] X.env := by rfl) (hpl : (backTo pos (starEach [e2] X.env)).any (·.1) = false := by rfl) :
    PID X (.Tuple elts kk tpos) (.Call (.Name "zip" p) [e, e2] [] pos) (zxp T) := by
  refine ⟨fun pins s σ H R I ⟨η, G, P, hs', hr, t, k⟩ => (ZM.pi_zip hg hm ha hs hpl).run pins s σ H R I ⟨η, G, _, hs', hr, t, fun ds G1 vs H1 p x r q => ?_⟩⟩
  split at p
  · rename_i xs ys
    obtain ⟨v1, r1, rfl, a1, q1⟩ := q.uncons
    obtain ⟨v2, r2, rfl, a2, q2⟩ := q1.uncons
    cases q2.nil_of
    rw [VR] at a1 a2
    obtain ⟨a, ws, rfl, ha, va⟩ := a1
    obtain ⟨b, us, rfl, hb, vb⟩ := a2
    exact ⟨a, b, ws, us, rfl, ha, zci hb (.inl rfl), k _ _ G1 _ H1 p x r (itzM fun H' G' x' r' => ⟨ws, us, Held.ext (k := .tup) r x' ha, zci (hb.ext r x') (.inl rfl), va.ext r x', vb.ext r x'⟩)⟩
  · exact p.elim
end DL
namespace HB
open PySem PySem.Spec PyProof.Rows L2
theorem z2i {l : PySem.W.OpenLaw} {k : Nat} {q : Program} {loose : List Str} {XP : (Str → Option Value) → Heap → Prop} {YP : World → Heap → Prop} {d : DefRec} {x : Str}
    (hn : l.most = some 63) (hdf : d.params.defaults = []) (hr : Room k callerA)
    (F : ∀ (w : World) (mg : Str → Option Value) (fa : Addr) (h : Heap), YP w h → h.Ns mainGlobals mg → mg d.name = some (.ref fa) →
      ∃ (K : PySem.W.Frag) (fd : FuncData), K.In h ∧ (∀ (s : Shared) (u : Value), BindsTo s fd ⟨[u], []⟩ [(x, u)]) ∧
        ∀ base : Heap, K.In base → base.Ns mainGlobals mg → DL.FnD l.prog w K mg base k fa fd [x] DL.zzg) :
    PySem.W.WalkO q loose XP YP l.row.toRowW d [] (fun f vs => PySem.call f vs) :=
  L2.walk_ofE (CX := CX0) hn (by decide) hdf hr (fun w mg fa h Y G hm => by
    obtain ⟨K, fd, KX, hb, hF⟩ := F w mg fa h Y G hm
    refine ⟨K, fd, fun vs H Q _ => DL.zw4 ⟨K, w⟩ DL.zzg vs H Q, KX, hb, fun H a ns h1 h2 h3 => ?_, hF⟩
    have hs : DL.VR ⟨K, w⟩ H (fun _ => none) (.nd .scr (ns.map .int)) (.ref a) := by
      rw [DL.VR]
      refine ⟨a, _, rfl, ?_, .of_ints ns⟩
      rcases h3 with (h3 | ⟨o, h3⟩) | h3
      · rcases h2 a with z | ⟨ob, xs, z⟩
        · rw [h3] at z; cases z
        · rw [h3] at z; cases z
      · exact .inl ⟨o, h3⟩
      · exact .inr h3
    exact ⟨[.nd .scr (ns.map .int)], fun _ => none, fun v _ => v = .bl true, .cons hs .nil, (fun a o e => by cases e), ⟨ns, rfl, h1, fun _ => rfl, fun _ => rfl⟩, fun d G' v H' p _ _ q => by
      subst p
      rw [DL.VR] at q
      exact q⟩) fun _ _ _ _ z => z
end HB
namespace DL
open PySem PySem.Spec PyProof.Rows L2
end DL
namespace DL
open PySem PySem.Spec PyProof.Rows L2
/-- an exception: its class, its fields -/
structure XV where
  C : Addr
  fs : List (Str × D)
structure XR (K : Ml) (H : Hp) (G : DHp) (x : XV) (cls : Value) (d : Option Addr) : Prop where
  cls : cls = .ref x.C
  fs : ∃ (dd : Addr) (ws : List (Str × V)), d = some dd ∧ G dd = none ∧ H dd = some (.xd ws) ∧ ws.map (·.1) = x.fs.map (·.1) ∧ VRs K H G (x.fs.map (·.2)) (ws.map (·.2))
theorem XR.ext {K : Ml} {H H' : Hp} {G G' : DHp} {x : XV} {cls : Value} {d : Option Addr} (hr : HR K H G) (e : Ext H G H' G') (h : XR K H G x cls d) : XR K H' G' x cls d := by
  obtain ⟨dd, ws, h1, h2, h3, h4, h5⟩ := h.fs
  obtain ⟨e1, e2⟩ := e.ex dd _ h3 h2
  exact ⟨h.cls, dd, ws, h1, e2, e1, h4, h5.ext hr e⟩
end DL
namespace DL
open PySem PySem.Spec PyProof.Rows L2
end DL
namespace DL
open PySem PySem.Spec PyProof.Rows L2
end DL
namespace DL
open PySem PySem.Spec PyProof.Rows L2
end DL
section
open PySem PySem.Spec PyProof.Rows L2 DL
local macro_rules | `(tactic| simp_arith only [$xs,*]) => `(tactic| simp only [$xs,*, dSeq, dIfS, zay, dOp, zk, dC, dRet, zlh, zi, dNil, dTup, zdd, dAsg, zne, zab, zov, dM, dM0, dIf, dAnd, dOr, dNot, zhq, dOrV, zml, zjx, dFz, zp7, zse, zm4, zr8, dCB, zkw, zc1, zkl, zri, dNeg, dAug, zpm, dFrz, dPar, zhc, zqe, zkr, dYes, zks, i2, d1, d2, d3, za4, List.map_cons, List.map_nil, List.length_cons, List.length_nil, List.cons_append, List.nil_append, List.append_nil, List.getElem?_cons_zero, List.getElem?_cons_succ, List.getElem?_nil, List.replicate, List.set_cons_succ, List.set_cons_zero, Nat.reduceAdd, Nat.reduceSub, Nat.reduceLeDiff, zjk, zjn, zmr, zmw, zm6, zmo, zg5, zfe, true_and, and_true, Bool.not_eq_true, Bool.not_true, Bool.not_false, if_true, if_false, Bool.false_eq_true, ite_true, ite_false, reduceIte, reduceCtorEq, decide_eq_true_eq, decide_eq_false_iff_not, Option.isSome_some, Option.isSome_none, Bool.true_bne, Bool.false_bne])
namespace M
open PySem PySem.Spec PyProof.Rows L2 DL
class CA where
  (MoonError BadGround BadCamera BadSky BadPicture BadStanding Ground Camera Sky TooMany Search BadDeed BadCraft BadBelief BadFlight BadCut BadText Values Looks Deed Craft Lander Flight Engines Crew Tree Survey Joint : Addr)
variable [CA]
abbrev isT : Value → Value → Option Bool := zlg [CA.Ground, CA.Camera, CA.Sky, CA.Deed, CA.Craft]
theorem zu4 {ds : List D} {G : DHp} {Q : DVK} : dLen [.nd .tup ds] G Q = Q (.int ds.length) G := rfl
theorem len3 {a b c : D} {G : DHp} {Q : DVK} : dLen [.nd .tup [a, b, c]] G Q = Q (.int 3) G := rfl
theorem len4 {a b c d : D} {G : DHp} {Q : DVK} : dLen [.nd .tup [a, b, c, d]] G Q = Q (.int 4) G := rfl
/-- what is no whole number -/
def z3q (t : D) : Prop := t = .non ∨ (∃ b, t = .bl b) ∨ (∃ x, t = .str x) ∨ (∃ ds, t = .nd .tup ds) ∨ ∃ ds, t = .nd .lst ds
def zz : DRn := d3 fun t l h G Q => (∃ i a b : Int, t = .int i ∧ l = .int a ∧ h = .int b ∧ Q (.bl (decide (a ≤ i ∧ i ≤ b))) G) ∨ (z3q t ∧ Q (.bl false) G)
theorem zux {cs : List Addr} {G : DHp} {Q : DVK} : (dIsi (zlg cs)) [.non, .ty "int"] G Q ↔ Q (.bl false) G := Iff.rfl
theorem zw6 {cs : List Addr} {b : Bool} {G : DHp} {Q : DVK} : (dIsi (zlg cs)) [.bl b, .ty "int"] G Q ↔ Q (.bl true) G := Iff.rfl
theorem zvf {cs : List Addr} {b : Bool} {G : DHp} {Q : DVK} : (dIsi (zlg cs)) [.bl b, .ty "bool"] G Q ↔ Q (.bl true) G := Iff.rfl
theorem zvq {cs : List Addr} {x : Str} {G : DHp} {Q : DVK} : (dIsi (zlg cs)) [.str x, .ty "int"] G Q ↔ Q (.bl false) G := Iff.rfl
theorem zu1 {cs : List Addr} {ds : List D} {G : DHp} {Q : DVK} : (dIsi (zlg cs)) [.nd .tup ds, .ty "int"] G Q ↔ Q (.bl false) G := Iff.rfl
theorem zvx {cs : List Addr} {ds : List D} {G : DHp} {Q : DVK} : (dIsi (zlg cs)) [.nd .lst ds, .ty "int"] G Q ↔ Q (.bl false) G := Iff.rfl
abbrev zer : List Str := ["thing", "low", "high"]
def ze9 : DTS :=
    (dRet (zhq (dCB (dIsi isT) (zi (zk 0) (zi (dC (.ty "int")) dNil))) (zhq (zml (dCB (dIsi isT) (zi (zk 0) (zi (dC (.ty "bool")) dNil)))) (zjx dLe dLe (zk 1) (zk 0) (zk 2)))))
theorem zt8 : ∀ ds G Q, zz ds G Q → ds.length = 3 := fun ds G Q h => by
  match ds, h with
  | [_, _, _], _ => rfl
theorem zuj : ∀ ds G Q, zz ds G Q → ze9 { nx := fun _ G' => Q .non G', rt := Q } (za4 zer ds) G := fun ds G Q h => by
  match ds, h with
  | [_, _, _], .inr ⟨n, q⟩ =>
    rcases n with rfl | ⟨b, rfl⟩ | ⟨x, rfl⟩ | ⟨ds, rfl⟩ | ⟨ds, rfl⟩
    · simp_arith only [ze9, zer, zux]; exact q
    · simp_arith only [ze9, zer, zw6, zvf]; exact q
    · simp_arith only [ze9, zer, zvq]; exact q
    · simp_arith only [ze9, zer, zu1]; exact q
    · simp_arith only [ze9, zer, zvx]; exact q
  | [_, _, _], .inl ⟨i, a, b, rfl, rfl, rfl, q⟩ =>
    simp_arith only [ze9, zer, zu0, zs6]
    by_cases h1 : a ≤ i
    · rw [if_pos h1]
      simpa [h1] using q
    · rw [if_neg h1]
      simpa [h1] using q
def okPt (a b : Int) (p : Int × Int × Int) : Prop := (a ≤ p.1 ∧ p.1 ≤ b) ∧ (a ≤ p.2.1 ∧ p.2.1 ≤ b) ∧ 1 ≤ p.2.2 ∧ p.2.2 ≤ 99
instance (a b : Int) (p : Int × Int × Int) : Decidable (okPt a b p) := by unfold okPt; infer_instance
/-- what is no row of three -/
def z49 (t : D) : Prop := (∃ ds, t = .nd .lst ds) ∨ ∃ ds : List D, t = .nd .tup ds ∧ ds.length ≠ 3
theorem zus {cs : List Addr} {ds : List D} {G : DHp} {Q : DVK} : (dIsi (zlg cs)) [.nd .lst ds, .ty "tuple"] G Q ↔ Q (.bl false) G := Iff.rfl
def ze2 : DRn := d3 fun t l h G Q => (∃ (p : Int × Int × Int) (a b : Int), t = e3 p ∧ l = .int a ∧ h = .int b ∧ Q (.bl (decide (okPt a b p))) G) ∨ (z49 t ∧ Q (.bl false) G)
abbrev zg9 : List Str := ["thing", "low", "high"]
def zit : DTS :=
    (dSeq (dIfS (dOr (dNot (zay (dCB (dIsi isT) (zi (zk 0) (zi (dC (.ty "tuple")) dNil))))) (zay (dOp dNe (dCB dLen (zi (zk 0) dNil)) (dC (.int 3)))))
    (dRet (dC (.bl false)))
    zdd)
    (dRet (zhq (dCB zz (zi (dOp dIx (zk 0) (dC (.int 0))) (zi (zk 1) (zi (zk 2) dNil)))) (zhq (dCB zz (zi (dOp dIx (zk 0) (dC (.int 1))) (zi (zk 1) (zi (zk 2) dNil)))) (dCB zz (zi (dOp dIx (zk 0) (dC (.int 2))) (zi (dC (.int 1)) (zi (dC (.int 99)) dNil))))))))
theorem ztn : ∀ ds G Q, ze2 ds G Q → ds.length = 3 := fun ds G Q h => by
  match ds, h with
  | [_, _, _], _ => rfl
theorem zud : ∀ ds G Q, ze2 ds G Q → zit { nx := fun _ G' => Q .non G', rt := Q } (za4 zg9 ds) G := fun ds G Q h => by
  match ds, h with
  | [_, _, _], .inr ⟨.inl ⟨ds, rfl⟩, q⟩ =>
    simp_arith only [zit, zg9, zus]
    exact q
  | [_, _, _], .inr ⟨.inr ⟨ds, rfl, h⟩, q⟩ =>
    simp_arith only [zit, zg9, zeo]
    rw [zu4]
    simp_arith only [true_and]
    rw [if_pos (by simp; omega)]
    exact q
  | [_, _, _], .inl ⟨p, a, b, rfl, rfl, rfl, q⟩ =>
    simp_arith only [zit, zg9, e3, zeo]
    rw [len3]
    simp_arith only [true_and]
    rw [if_neg (by decide)]
    refine zie (by decide) rfl (.inl ⟨_, _, _, rfl, rfl, rfl, ?_⟩)
    dsimp only
    by_cases h1 : a ≤ p.1 ∧ p.1 ≤ b
    · rw [decide_eq_true h1, if_pos rfl]
      refine zie (by decide) rfl (.inl ⟨_, _, _, rfl, rfl, rfl, ?_⟩)
      dsimp only
      by_cases h2 : a ≤ p.2.1 ∧ p.2.1 ≤ b
      · rw [decide_eq_true h2, if_pos rfl]
        refine zie (by decide) rfl (.inl ⟨_, _, _, rfl, rfl, rfl, ?_⟩)
        have e : decide (okPt a b p) = decide (1 ≤ p.2.2 ∧ p.2.2 ≤ 99) := by rw [Bool.eq_iff_iff]; simp [okPt, h1, h2]
        rw [e] at q
        exact q
      · rw [decide_eq_false h2, if_neg Bool.false_ne_true]
        have e : decide (okPt a b p) = false := by rw [decide_eq_false_iff_not]; exact fun z => h2 z.2.1
        rw [e] at q
        exact q
    · rw [decide_eq_false h1, if_neg Bool.false_ne_true]
      have e : decide (okPt a b p) = false := by rw [decide_eq_false_iff_not]; exact fun z => h1 z.1
      rw [e] at q
      exact q
structure Cam where
  w : Int
  h : Int
  er : Int
  fa : Int
  lo : Int
structure Sk where
  cs : List (Int × Int × Int)
  cam : Cam
  tu : List Int
  ar : Int × Int × Int × Int
def gD (cs : List (Int × Int × Int)) : D := .nd (.ins CA.Ground ["craters"]) [eT e3 cs]
def cD (c : Cam) : D := .nd (.ins CA.Camera ["width", "height", "error", "false", "lost"]) [.int c.w, .int c.h, .int c.er, .int c.fa, .int c.lo]
def e4 (a : Int × Int × Int × Int) : D := .nd .tup [.int a.1, .int a.2.1, .int a.2.2.1, .int a.2.2.2]
def sD (s : Sk) : D := .nd (.ins CA.Sky ["ground", "camera", "turns", "area"]) [gD s.cs, cD s.cam, eT .int s.tu, e4 s.ar]
def z0l (c : Cam) : Prop := (1 ≤ c.w ∧ c.w ≤ 1000) ∧ (1 ≤ c.h ∧ c.h ≤ 1000) ∧ (0 ≤ c.er ∧ c.er ≤ 100) ∧ (0 ≤ c.fa ∧ c.fa ≤ 100) ∧ (0 ≤ c.lo ∧ c.lo ≤ 100)
section
variable {T : DTE} {η : DSt} {G : DHp} {Q : DVK}
theorem zd9 {C : Addr} {n : Str} {ns : List Str} {ds : List D} : fldD C n (.nd (.ins C ns) ds) G = (ns.zip ds).lookup n := if_pos rfl
theorem zni {cs : List (Int × Int × Int)} : fldD CA.Ground "craters" (gD cs) G = some (eT e3 cs) := by unfold gD; rw [zd9]; rfl
theorem zwl {c : Cam} : fldD CA.Camera "width" (cD c) G = some (.int c.w) := by unfold cD; rw [zd9]; rfl
theorem zs5 {c : Cam} : fldD CA.Camera "height" (cD c) G = some (.int c.h) := by unfold cD; rw [zd9]; rfl
theorem zwc {c : Cam} : fldD CA.Camera "error" (cD c) G = some (.int c.er) := by unfold cD; rw [zd9]; rfl
theorem zwo {c : Cam} : fldD CA.Camera "false" (cD c) G = some (.int c.fa) := by unfold cD; rw [zd9]; rfl
theorem zyx {c : Cam} : fldD CA.Camera "lost" (cD c) G = some (.int c.lo) := by unfold cD; rw [zd9]; rfl
theorem zqd {s : Sk} : fldD CA.Sky "ground" (sD s) G = some (gD s.cs) := by unfold sD; rw [zd9]; rfl
theorem zpa {s : Sk} : fldD CA.Sky "camera" (sD s) G = some (cD s.cam) := by unfold sD; rw [zd9]; rfl
theorem zle {s : Sk} : fldD CA.Sky "turns" (sD s) G = some (eT .int s.tu) := by unfold sD; rw [zd9]; rfl
theorem zl3 {s : Sk} : fldD CA.Sky "area" (sD s) G = some (e4 s.ar) := by unfold sD; rw [zd9]; rfl
end
def za5 : DRn := d2 fun s c G Q => ∃ (x : Addr) (cs : List (Int × Int × Int)), s = .ref x ∧ c = eL e3 cs ∧ G x = some (.ins CA.Ground []) ∧ cs.length ≤ 100 ∧ (∀ p ∈ cs, okPt (0 - 1000000) 1000000 p) ∧
  Q .non (up G x (.ins CA.Ground [("craters", eT e3 (srtT e3 cs))]))
abbrev zeu : List Str := ["self", "craters", "number", "crater"]
def zfx : DTS :=
    (dSeq (dFor (zyl (zi (zk 1) dNil)) (zkw (zc1 (zab 2) (zc1 (zab 3) zkl)) 2)
    (dIfS (dOr (zay (dOp dGe (zk 2) (dC (.int 100)))) (dNot (zay (dCB ze2 (zi (zk 3) (zi (dOp dSub (dC (.int 0)) (dC (.int 1000000))) (zi (dC (.int 1000000)) dNil)))))))
    zcp
    zdd))
    (zik CA.Ground "craters" (zk 0) (dCB zll (zi (dFz (dCB zrt (zi (zk 1) dNil))) dNil))))
theorem zmd : ∀ ds G Q, za5 ds G Q → ds.length = 2 := fun ds G Q h => by
  match ds, h with
  | [_, _], _ => rfl
theorem z03 (p : Int × Int × Int) : (py (e3 p)).depth ≤ 60 := Nat.le_trans (zjj p) (by decide)
/-- a field set -/
theorem z1c {C : Addr} {n : Str} {To Tv : DTE} {F : ziv} {η : DSt} {G : DHp} {x : Addr} {y : D} {fs : List (Str × D)} (ho : ∀ R : DVK, R (.ref x) G → To η G R) (hG : G x = some (.ins C fs)) (hl : fs.length < 1000)
    (k : F.nx η (up G x (.ins C (fput n y fs)))) (hv : ∀ R : DVK, R y G → Tv η G R) : zik C n To Tv F η G := by
  refine hv _ (ho _ ?_)
  show (match G x with | some (.ins B fs) => _ | _ => False)
  rw [hG]
  exact ⟨⟨rfl, hl⟩, k⟩
theorem zmb : ∀ ds G Q, za5 ds G Q → zfx { nx := fun _ G' => Q .non G', rt := Q } (za4 zeu ds) G := fun ds G Q h => by
  match ds, h with
  | [_, _], ⟨x, cs, rfl, rfl, hG, hl, hok, q⟩ =>
    simp_arith only [zfx, zeu, dFor, zyl, eL]
    refine ⟨fun i η G' => ∃ nu cr, η = [some (.ref x), some (eL e3 cs), nu, cr] ∧ G' = G, ⟨none, none, rfl, rfl⟩, fun _ _ _ _ => trivial, ?_, ?_⟩
    · rintro i d η G' hd ⟨nu, cr, rfl, rfl⟩
      obtain ⟨z, hz, rfl⟩ := zpw hd
      obtain ⟨p, hp, rfl⟩ := zhp hz
      have hi : i < cs.length := (List.getElem?_eq_some_iff.mp hp).1
      simp_arith only [zcp]
      rw [if_neg (by omega)]
      refine .inl ⟨p, _, _, rfl, rfl, rfl, ?_⟩
      rw [decide_eq_true (hok p (List.mem_of_getElem? hp))]
      simp_arith only [true_and]
      exact ⟨_, (by repeat (first | exact Le.nil | apply Le.keep | apply Le.drop)), _, _, rfl, rfl⟩
    · rintro η G' ⟨nu, cr, rfl, rfl⟩
      refine z1c (fs := []) (y := eT e3 (srtT e3 cs)) (fun R r => r) hG (by decide) q fun R r => ?_
      simp_arith only [true_and]
      refine zrc (f := e3) (xs := cs) rfl (fun _ => rfl) al3 (st3 cs) z03 fun p hp => ?_
      simp_arith only [zt, ze1 hp]
      rw [zl1 (ds := (srtT e3 cs).map e3) rfl]
      exact r
def zbp : DRn := fun ds G Q => ∃ (x : Addr) (c : Cam), ds = [.ref x, .int c.w, .int c.h, .int c.er, .int c.fa, .int c.lo] ∧ G x = some (.ins CA.Camera []) ∧ z0l c ∧
  Q .non (up G x (.ins CA.Camera [("width", .int c.w), ("height", .int c.h), ("error", .int c.er), ("false", .int c.fa), ("lost", .int c.lo)]))
abbrev zdt : List Str := ["self", "width", "height", "error", "false", "lost", "word", "number", "low", "high"]
def ze3 : DTS :=
    (dFor (zgr (dTup (zi (dTup (zi (dC (.str "width")) (zi (zk 1) (zi (dC (.int 1)) (zi (dC (.int 1000)) dNil))))) (zi (dTup (zi (dC (.str "height")) (zi (zk 2) (zi (dC (.int 1)) (zi (dC (.int 1000)) dNil))))) (zi (dTup (zi (dC (.str "error")) (zi (zk 3) (zi (dC (.int 0)) (zi (dC (.int 100)) dNil))))) (zi (dTup (zi (dC (.str "false")) (zi (zk 4) (zi (dC (.int 0)) (zi (dC (.int 100)) dNil))))) (zi (dTup (zi (dC (.str "lost")) (zi (zk 5) (zi (dC (.int 0)) (zi (dC (.int 100)) dNil))))) dNil))))))) (zkw (zc1 (zab 6) (zc1 (zab 7) (zc1 (zab 8) (zc1 (zab 9) zkl)))) 4)
    (dIfS (dNot (zay (dCB zz (zi (zk 7) (zi (zk 8) (zi (zk 9) dNil))))))
    zcp
    zdd))
def zho : DTS :=
    (zik CA.Camera "width" (zk 0) (zk 1))
def zhl : DTS :=
    (zik CA.Camera "height" (zk 0) (zk 2))
def zhm : DTS :=
    (zik CA.Camera "error" (zk 0) (zk 3))
def zhd : DTS :=
    (zik CA.Camera "false" (zk 0) (zk 4))
def zhh : DTS :=
    (zik CA.Camera "lost" (zk 0) (zk 5))
def zhn : DTS :=
    zhh
def zhe : DTS :=
    (dSeq zhd zhn)
def zhw : DTS :=
    (dSeq zhm zhe)
def zhi : DTS :=
    (dSeq zhl zhw)
def zhf : DTS :=
    (dSeq zho zhi)
def zi9 : DTS :=
    (dSeq ze3 zhf)
theorem zlm : ∀ ds G Q, zbp ds G Q → ds.length = 6 := fun ds G Q ⟨x, c, e, _⟩ => by rw [e]; rfl
theorem z4h {F : ziv} {x : Addr} {c : Cam} {G : DHp} (ok : z0l c) (k : ∀ a b d e, F.nx [some (.ref x), some (.int c.w), some (.int c.h), some (.int c.er), some (.int c.fa), some (.int c.lo), a, b, d, e] G) : ze3 F (za4 zdt [.ref x, .int c.w, .int c.h, .int c.er, .int c.fa, .int c.lo]) G := by
  simp_arith only [ze3, zdt, dFor, zgr]
  refine ⟨fun i η G' => ∃ a b d e, η = [some (.ref x), some (.int c.w), some (.int c.h), some (.int c.er), some (.int c.fa), some (.int c.lo), a, b, d, e] ∧ G' = G, ⟨none, none, none, none, rfl, rfl⟩, fun _ _ _ _ => trivial, ?_, ?_⟩
  · rintro i d η G' hd ⟨a, b, z, e, rfl, rfl⟩
    have hm := List.mem_of_getElem? hd
    have key : ∃ (w : Str) (n lo hi : Int), d = .nd .tup [.str w, .int n, .int lo, .int hi] ∧ lo ≤ n ∧ n ≤ hi := by
      simp only [List.mem_cons, List.not_mem_nil, or_false] at hm
      obtain ⟨o1, o2, o3, o4, o5⟩ := ok
      rcases hm with h | h | h | h | h
      · exact ⟨_, _, _, _, h, o1.1, o1.2⟩
      · exact ⟨_, _, _, _, h, o2.1, o2.2⟩
      · exact ⟨_, _, _, _, h, o3.1, o3.2⟩
      · exact ⟨_, _, _, _, h, o4.1, o4.2⟩
      · exact ⟨_, _, _, _, h, o5.1, o5.2⟩
    clear hd hm
    obtain ⟨w, n, lo, hi, rfl, h1, h2⟩ := key
    simp_arith only [true_and]
    refine .inl ⟨n, lo, hi, rfl, rfl, rfl, ?_⟩
    rw [decide_eq_true ⟨h1, h2⟩]
    simp_arith only [true_and]
    exact ⟨_, (by repeat (first | exact Le.nil | apply Le.keep | apply Le.drop)), _, _, _, _, rfl, rfl⟩
  · rintro η G' ⟨a, b, z, e, rfl, rfl⟩
    exact k _ _ _ _
/-- a field set, what stands then told -/
theorem zgl {C : Addr} {n : Str} {To Tv : DTE} {F : ziv} {η : DSt} {G : DHp} {x : Addr} {y : D} {fs fs' : List (Str × D)} (ho : ∀ R : DVK, R (.ref x) G → To η G R) (hv : ∀ R : DVK, R y G → Tv η G R) (hG : G x = some (.ins C fs)) (hl : fs.length < 1000) (hf : fput n y fs = fs')
    (k : F.nx η (up G x (.ins C fs'))) : zik C n To Tv F η G := z1c ho hG hl (by rw [hf]; exact k) hv
theorem zlw : ∀ ds G Q, zbp ds G Q → zi9 { nx := fun _ G' => Q .non G', rt := Q } (za4 zdt ds) G := fun ds G Q h => by
  obtain ⟨x, c, rfl, hG, ok, q⟩ := h
  refine z4h ok fun a b d e => ?_
  dsimp only [zhf, zho, dSeq]
  refine zgl (fs' := [("width", .int c.w)]) (fun R r => r) (fun R r => r) hG (by decide) rfl ?_
  dsimp only [zhi, zhl, dSeq]
  refine zgl (fs' := [("width", .int c.w), ("height", .int c.h)]) (fun R r => r) (fun R r => r) zt (by show _ < 1000; simp) rfl ?_
  rw [ze5]
  dsimp only [zhw, zhm, dSeq]
  refine zgl (fs' := [("width", .int c.w), ("height", .int c.h), ("error", .int c.er)]) (fun R r => r) (fun R r => r) zt (by show _ < 1000; simp) rfl ?_
  rw [ze5]
  dsimp only [zhe, zhd, dSeq]
  refine zgl (fs' := [("width", .int c.w), ("height", .int c.h), ("error", .int c.er), ("false", .int c.fa)]) (fun R r => r) (fun R r => r) zt (by show _ < 1000; simp) rfl ?_
  rw [ze5]
  dsimp only [zhn, zhh, dSeq]
  refine zgl (fs' := [("width", .int c.w), ("height", .int c.h), ("error", .int c.er), ("false", .int c.fa), ("lost", .int c.lo)]) (fun R r => r) (fun R r => r) zt (by show _ < 1000; simp) rfl ?_
  rw [ze5]
  exact q
theorem z11 {s : Sk} {m : Str} {G : DHp} (h : (["ground", "camera", "turns", "area"] : List Str).contains m = false) : insD CA.Sky m (sD s) G := ⟨rfl, h⟩
abbrev Pt := Int × Int × Int
/-- a sky such as the laws draw -/
structure OkSk (s : Sk) : Prop where
  cs : s.cs.length ≤ 100
  cb : ∀ c ∈ s.cs, okPt (0 - 1000000) 1000000 c
  cam : z0l s.cam
  tl : s.tu.length ≤ 4
  b1 : -1000 ≤ s.ar.1 ∧ s.ar.1 ≤ s.ar.2.1 ∧ s.ar.2.1 ≤ s.ar.1 + 99
  b2 : -1000 ≤ s.ar.2.2.1 ∧ s.ar.2.2.1 ≤ s.ar.2.2.2 ∧ s.ar.2.2.2 ≤ s.ar.2.2.1 + 99
  u1 : s.ar.1 ≤ 1000
  u2 : s.ar.2.2.1 ≤ 1000
def rowS (s : Sk) (t x : Int) : List (Int × Int × Int) := (zfw s.ar.2.2.1 (s.ar.2.2.2 + 1)).map fun y => (t, x, y)
def colS (s : Sk) (t : Int) : List (Int × Int × Int) := (zfw s.ar.1 (s.ar.2.1 + 1)).flatMap (rowS s t)
def zlk (s : Sk) : List (Int × Int × Int) := s.tu.flatMap (colS s)
theorem zx7 {s : Sk} (h : OkSk s) (t x : Int) : (rowS s t x).length ≤ 100 := by
  unfold rowS; rw [List.length_map, zhk]; have := h.b2; omega
theorem zsj {α β : Type} {l : List α} {f : α → List β} {i : Nat} {x : α} (e : l[i]? = some x) : (l.take (i + 1)).flatMap f = (l.take i).flatMap f ++ f x := by
  rw [zsk e, List.flatMap_append]; simp
theorem zvw {s : Sk} (h : OkSk s) (t : Int) (j : Nat) : (((zfw s.ar.1 (s.ar.2.1 + 1)).take j).flatMap (rowS s t)).length ≤ 10000 := by
  refine Nat.le_trans (zmc fun x _ => zx7 h t x) ?_
  rw [List.length_take, zhk]
  have := h.b1
  omega
theorem zs2 {s : Sk} (h : OkSk s) (i : Nat) : ((s.tu.take i).flatMap (colS s)).length ≤ 40000 := by
  refine Nat.le_trans (zmc (B := 10000) fun t _ => ?_) ?_
  · have := zvw h t (zfw s.ar.1 (s.ar.2.1 + 1)).length
    rw [List.take_length] at this
    exact this
  · rw [List.length_take]; have := h.tl; omega
def zcg : DRn := fun ds G Q => ∃ s : Sk, ds = [sD s] ∧ OkSk s ∧ Q (eT e3 (zlk s)) G
abbrev zfr : List Str := ["self", "found", "turn", "first", "second"]
def zhr : DTS :=
    (dSeq (dAsg (zne dNil) (zab 1))
    (dSeq (dFor (zgr (dFld CA.Sky "turns" (zk 0))) (zab 2)
    (dFor (zg4 (zi (dOp dIx (dFld CA.Sky "area" (zk 0)) (dC (.int 0))) (zi (dOp dAdd (dOp dIx (dFld CA.Sky "area" (zk 0)) (dC (.int 1))) (dC (.int 1))) dNil))) (zab 3)
    (dFor (zg4 (zi (dOp dIx (dFld CA.Sky "area" (zk 0)) (dC (.int 2))) (zi (dOp dAdd (dOp dIx (dFld CA.Sky "area" (zk 0)) (dC (.int 3))) (dC (.int 1))) dNil))) (zab 4)
    (zov (dM "list" zro (zk 1) (zi (dTup (zi (zk 2) (zi (zk 3) (zi (zk 4) dNil)))) dNil))))))
    (dFrz 1 (dRet (dCB zll (zi (zk 1) dNil))))))
theorem zns : ∀ ds G Q, zcg ds G Q → ds.length = 1 := fun ds G Q ⟨c, e, _⟩ => by rw [e]; rfl
theorem zj0 {s : Sk} {G : DHp} {Q : DVK} {i : Int} {z : Int} (h0 : 0 ≤ i) (h : [D.int s.ar.1, .int s.ar.2.1, .int s.ar.2.2.1, .int s.ar.2.2.2][i.toNat]? = some (.int z)) (q : Q (.int z) G) : dIx (e4 s.ar) (.int i) G Q := zie h0 h q
theorem znu : ∀ ds G Q, zcg ds G Q → zhr { nx := fun _ G' => Q .non G', rt := Q } (za4 zfr ds) G := fun ds G Q h => by
  obtain ⟨s, rfl, ok, q⟩ := h
  simp_arith only [zhr, zfr]
  intro p hp
  simp_arith only [dFor, zgr, dFld, zle, eT]
  refine ⟨fun i η G' => ∃ a b c, η = [some (sD s), some (.ref p), a, b, c] ∧ G' = up G p (.lst (((s.tu.take i).flatMap (colS s)).map e3)), ⟨none, none, none, rfl, rfl⟩, fun _ _ _ _ => trivial, ?_, ?_⟩
  · rintro i d η G' hd ⟨a, b, c, rfl, rfl⟩
    obtain ⟨t, ht, rfl⟩ := zhp hd
    simp_arith only [zg4, dFld, zl3]
    refine zj0 (by decide) rfl (zj0 (by decide) rfl ?_)
    simp_arith only [true_and]
    have hb := ok.b1; have hb2 := ok.b2; have hu := ok.u1; have hu2 := ok.u2
    refine ⟨⟨by omega, by omega, by omega, by omega⟩, fun j η G' => ∃ b c, η = [some (sD s), some (.ref p), some (.int t), b, c] ∧ G' = up G p (.lst (((s.tu.take i).flatMap (colS s) ++ ((zfw s.ar.1 (s.ar.2.1 + 1)).take j).flatMap (rowS s t)).map e3)), ⟨b, c, rfl, by simp⟩, fun _ _ _ _ => trivial, ?_, ?_⟩
    · rintro j d η G' hd ⟨b, c, rfl, rfl⟩
      obtain ⟨x, hx, rfl⟩ := zhp hd
      simp_arith only [zg4, dFld, zl3]
      refine zj0 (by decide) rfl (zj0 (by decide) rfl ?_)
      simp_arith only [true_and]
      refine ⟨⟨by omega, by omega, by omega, by omega⟩, fun k η G' => ∃ c, η = [some (sD s), some (.ref p), some (.int t), some (.int x), c] ∧ G' = up G p (.lst ((((s.tu.take i).flatMap (colS s) ++ ((zfw s.ar.1 (s.ar.2.1 + 1)).take j).flatMap (rowS s t)) ++ ((zfw s.ar.2.2.1 (s.ar.2.2.2 + 1)).take k).map fun y => (t, x, y)).map e3)), ⟨c, rfl, by simp⟩, fun _ _ _ _ => trivial, ?_, ?_⟩
      · rintro k d η G' hd ⟨c, rfl, rfl⟩
        obtain ⟨y, hy, rfl⟩ := zhp hd
        have l1 := zs2 ok i
        have l2 := zvw ok t j
        simp_arith only [true_and]
        refine znm zt (zes ?_) ?_
        · rw [List.length_map, List.length_append, List.length_append, List.length_map, List.length_take, zhk]; omega
        · rw [ze5]
          refine ⟨_, (by repeat (first | exact Le.nil | apply Le.keep | apply Le.drop)), _, rfl, ?_⟩
          rw [zsk hy]
          simp only [List.map_append, List.append_assoc, List.map_cons, List.map_nil]
          rfl
      · rintro η G' ⟨c, rfl, rfl⟩
        rw [List.length_map, List.take_length]
        refine ⟨_, (by repeat (first | exact Le.nil | apply Le.keep | apply Le.drop)), _, _, rfl, ?_⟩
        rw [zsj hx, List.append_assoc]
        rfl
    · rintro η G' ⟨b, c, rfl, rfl⟩
      rw [List.length_map, List.take_length]
      refine ⟨_, (by repeat (first | exact Le.nil | apply Le.keep | apply Le.drop)), _, _, _, rfl, ?_⟩
      rw [zsj ht]
      rfl
  · rintro η G' ⟨a, b, c, rfl, rfl⟩
    rw [List.length_map, List.take_length]
    simp_arith only [zt, ze1 hp]
    rw [zl1 (ds := (zlk s).map e3) rfl]
    exact q
def inA (s : Sk) (sh : Int × Int) : Prop := (s.ar.1 ≤ sh.1 ∧ sh.1 ≤ s.ar.2.1) ∧ s.ar.2.2.1 ≤ sh.2 ∧ sh.2 ≤ s.ar.2.2.2
def isSt (s : Sk) (st : Pt) : Prop := (0 ≤ st.1 ∧ st.1 ≤ 3) ∧ inA s st.2 ∧ st.1 ∈ s.tu
instance (s : Sk) (st : Pt) : Decidable (isSt s st) := by unfold isSt inA; infer_instance
structure OkSI (tu : List Int) (ar : Int × Int × Int × Int) : Prop where
  ne : tu ≠ []
  t3 : ∀ t ∈ tu, 0 ≤ t ∧ t ≤ 3
  asc : tu.Pairwise (· < ·)
  tl : tu.length ≤ 4
  a1 : -1000000 ≤ ar.1 ∧ ar.1 ≤ ar.2.1 ∧ ar.2.1 ≤ 1000000
  a2 : -1000000 ≤ ar.2.2.1 ∧ ar.2.2.1 ≤ ar.2.2.2 ∧ ar.2.2.2 ≤ 1000000
  few : (tu.length : Int) * (ar.2.1 - ar.1 + 1) * (ar.2.2.2 - ar.2.2.1 + 1) ≤ 40000
def zcx : DRn := fun ds G Q => ∃ (x : Addr) (s : Sk), ds = [.ref x, gD s.cs, cD s.cam, eT .int s.tu, e4 s.ar] ∧ G x = some (.ins CA.Sky []) ∧ OkSI s.tu s.ar ∧
  Q .non (up G x (.ins CA.Sky [("ground", gD s.cs), ("camera", cD s.cam), ("turns", eT .int s.tu), ("area", e4 s.ar)]))
abbrev zd5 : List Str := ["self", "ground", "camera", "turns", "area", "turn", "one", "other", "number"]
def zgz : DTS :=
    (dIfS (dOr (dNot (zay (dCB (dIsi isT) (zi (zk 3) (zi (dC (.ty "tuple")) dNil))))) (dOr (zay (dOp dEq (zk 3) (dTup dNil))) (dNot (zay (dCB dAll (zi (dFz (dLc (zgr (zk 3)) (zab 5) dYes (dCB zz (zi (zk 5) (zi (dC (.int 0)) (zi (dC (.int 3)) dNil)))) [5])) dNil))))))
    zcp
    zdd)
def zgo : DTS :=
    (dIfS (dNot (zay (dCB dAll (zi (dFz (dLc (z2v (zi (zk 3) (zi (zkr dSl (zk 3) (zqe (dC (.int 1))) zhc) dNil))) (zkw (zc1 (zab 6) (zc1 (zab 7) zkl)) 2) dYes (dOp dLt (zk 6) (zk 7)) [6, 7])) dNil))))
    zcp
    zdd)
def zgx : DTS :=
    (dIfS (dOr (dNot (zay (dCB (dIsi isT) (zi (zk 4) (zi (dC (.ty "tuple")) dNil))))) (zay (dOp dNe (dCB dLen (zi (zk 4) dNil)) (dC (.int 4)))))
    zcp
    zdd)
def zgy : DTS :=
    (dIfS (dNot (zay (dCB dAll (zi (dFz (dLc (zgr (zk 4)) (zab 8) dYes (dCB zz (zi (zk 8) (zi (dOp dSub (dC (.int 0)) (dC (.int 1000000))) (zi (dC (.int 1000000)) dNil)))) [8])) dNil))))
    zcp
    zdd)
def zgs : DTS :=
    (dIfS (dOr (zay (dOp dGt (dOp dIx (zk 4) (dC (.int 0))) (dOp dIx (zk 4) (dC (.int 1))))) (zay (dOp dGt (dOp dIx (zk 4) (dC (.int 2))) (dOp dIx (zk 4) (dC (.int 3))))))
    zcp
    zdd)
def zgq : DTS :=
    (dIfS (zay (dOp dGt (dOp dMul (dOp dMul (dCB dLen (zi (zk 3) dNil)) (dOp dAdd (dOp dSub (dOp dIx (zk 4) (dC (.int 1))) (dOp dIx (zk 4) (dC (.int 0)))) (dC (.int 1)))) (dOp dAdd (dOp dSub (dOp dIx (zk 4) (dC (.int 3))) (dOp dIx (zk 4) (dC (.int 2)))) (dC (.int 1)))) (dC (.int 40000))))
    zcp
    zdd)
def zke : DTS :=
    (zik CA.Sky "ground" (zk 0) (zk 1))
def zj7 : DTS :=
    (zik CA.Sky "camera" (zk 0) (zk 2))
def zjz : DTS :=
    (zik CA.Sky "turns" (zk 0) (zk 3))
def zka : DTS :=
    (zik CA.Sky "area" (zk 0) (zk 4))
def zj8 : DTS :=
    zka
def zkf : DTS :=
    (dSeq zjz zj8)
def zkc : DTS :=
    (dSeq zj7 zkf)
def zj6 : DTS :=
    (dSeq zke zkc)
def zkb : DTS :=
    (dSeq zgq zj6)
def zkd : DTS :=
    (dSeq zgs zkb)
def zj3 : DTS :=
    (dSeq zgy zkd)
def zjy : DTS :=
    (dSeq zgx zj3)
def zjw : DTS :=
    (dSeq zgo zjy)
def zlj : DTS :=
    (dSeq zgz zjw)
theorem zof : ∀ ds G Q, zcx ds G Q → ds.length = 5 := fun ds G Q ⟨x, c, e, _⟩ => by rw [e]; rfl
def stSk (x : Addr) (s : Sk) : DSt := [some (.ref x), some (gD s.cs), some (cD s.cam), some (eT .int s.tu), some (e4 s.ar), none, none, none, none]
theorem z3t {F : ziv} {x : Addr} {s : Sk} {G : DHp} (ok : OkSI s.tu s.ar) (k : F.nx (stSk x s) G) : zgz F (stSk x s) G := by
  simp_arith only [zgz, stSk, eT, zeo]
  refine zrf (zg2 (f := .int) zum s.tu) rfl (Nat.le_trans (zgg (B := 0) (f := .int) (fun a => Nat.le_of_eq (zem a)) s.tu) (by decide)) (show PyData.depth (py (.nd .tup [])) ≤ 64 by decide) false ⟨fun z => (by cases z), fun z => ?_⟩ ?_
  · exfalso
    have z2 : D.nd .tup (s.tu.map .int) = .nd .tup [] := z
    have z3 : s.tu.map D.int = [] := by injection z2
    exact ok.ne (List.map_eq_nil_iff.mp z3)
  · simp_arith only [true_and]
    refine zkk (xs := s.tu) (f := .int) (fun t : Int => .bl (decide (0 ≤ t ∧ t ≤ 3))) (by have := ok.tl; omega) (fun R r => by simp_arith only [zgr]; exact r) (fun t ht G1 A a => ?_) fun p hp => ?_
    · simp_arith only [true_and]
      exact .inl ⟨_, _, _, rfl, rfl, rfl, a⟩
    · simp_arith only [zt, ze1 hp, DO.tree]
      refine zk1 ?_
      rw [List.all_eq_true.mpr fun t ht => decide_eq_true (ok.t3 t ht)]
      simp_arith only [true_and]
      exact k
theorem z3e {F : ziv} {x : Addr} {s : Sk} {G : DHp} (ok : OkSI s.tu s.ar) (k : F.nx (stSk x s) G) : zgo F (stSk x s) G := by
  simp_arith only [zgo, stSk]
  refine zkk (xs := s.tu.zip (s.tu.drop 1)) (f := e2) (fun t : Int × Int => .bl (decide (t.1 < t.2))) (by have := ok.tl; rw [List.length_zip]; omega) (fun R r => ?_) (fun t ht G1 A a => ?_) fun p hp => ?_
  · simp_arith only [z2v, eT]
    unfold dSl
    have e : cutD (s.tu.map D.int) (some 1) none = (s.tu.drop 1).map .int := by
      have := zz7 (s.tu.map D.int) 1
      rw [List.map_drop]
      exact this
    dsimp only [der]
    rw [e]
    have e2' : zipL (s.tu.map D.int) ((s.tu.drop 1).map .int) = (s.tu.zip (s.tu.drop 1)).map e2 := by
      unfold zipL
      rw [List.zipWith_map, List.zip, List.map_zipWith]
      rfl
    rw [e2']
    exact r
  · simp_arith only [e2]
    exact a
  · simp_arith only [zt, ze1 hp, DO.tree]
    refine zk1 ?_
    rw [List.all_eq_true.mpr fun t ht => decide_eq_true ?_]
    · simp_arith only [true_and]
      exact k
    · obtain ⟨i, hi, e⟩ := List.getElem_of_mem ht
      rw [List.length_zip, List.length_drop] at hi
      rw [List.getElem_zip, List.getElem_drop] at e
      rw [← e]
      exact (List.pairwise_iff_getElem.mp ok.asc) i (1 + i) (by omega) (by omega) (by omega)
theorem z4m {F : ziv} {x : Addr} {s : Sk} {G : DHp} (k : F.nx (stSk x s) G) : zgx F (stSk x s) G := by
  simp_arith only [zgx, stSk, e4, zeo]
  rw [len4]
  simp_arith only [true_and]
  rw [if_neg (by decide)]
  exact k
theorem z34 {F : ziv} {x : Addr} {s : Sk} {G : DHp} (ok : OkSI s.tu s.ar) (k : F.nx (stSk x s) G) : zgy F (stSk x s) G := by
  simp_arith only [zgy, stSk]
  have a1 := ok.a1
  have a2 := ok.a2
  refine zkk (xs := [s.ar.1, s.ar.2.1, s.ar.2.2.1, s.ar.2.2.2]) (f := .int) (fun t : Int => .bl (decide (0 - 1000000 ≤ t ∧ t ≤ 1000000))) (show 4 ≤ 1000000 by omega) (fun R r => by simp_arith only [zgr, e4]; exact r) (fun t ht G1 A a => ?_) fun p hp => ?_
  · simp_arith only [true_and]
    exact .inl ⟨_, _, _, rfl, rfl, rfl, a⟩
  · simp_arith only [zt, ze1 hp, DO.tree]
    refine zk1 (xs := [s.ar.1, s.ar.2.1, s.ar.2.2.1, s.ar.2.2.2]) (b := fun t : Int => decide (0 - 1000000 ≤ t ∧ t ≤ 1000000)) ?_
    rw [List.all_eq_true.mpr fun t ht => decide_eq_true ?_]
    · simp_arith only [true_and]
      exact k
    · simp only [List.mem_cons, List.not_mem_nil, or_false] at ht
      rcases ht with rfl | rfl | rfl | rfl <;> omega
theorem z4p {F : ziv} {x : Addr} {s : Sk} {G : DHp} (ok : OkSI s.tu s.ar) (k : F.nx (stSk x s) G) : zgs F (stSk x s) G := by
  simp_arith only [zgs, stSk]
  have a1 := ok.a1
  have a2 := ok.a2
  refine zj0 (by decide) rfl (zj0 (by decide) rfl ?_)
  simp_arith only [true_and]
  rw [if_neg (by omega)]
  refine zj0 (by decide) rfl (zj0 (by decide) rfl ?_)
  simp_arith only [true_and]
  rw [if_neg (by omega)]
  exact k
theorem z35 {F : ziv} {x : Addr} {s : Sk} {G : DHp} (ok : OkSI s.tu s.ar) (k : F.nx (stSk x s) G) : zgq F (stSk x s) G := by
  simp_arith only [zgq, stSk, zxf]
  have a1 := ok.a1
  have a2 := ok.a2
  have tl := ok.tl
  refine zj0 (by decide) rfl (zj0 (by decide) rfl ?_)
  simp_arith only [true_and]
  refine ⟨zx9 (by omega), ?_⟩
  refine zj0 (by decide) rfl (zj0 (by decide) rfl ?_)
  simp_arith only [true_and]
  refine ⟨?_, ?_⟩
  · exact .inr ⟨by omega, by omega⟩
  · have := ok.few
    rw [if_neg (by omega)]
    exact k
theorem zoo : ∀ ds G Q, zcx ds G Q → zlj { nx := fun _ G' => Q .non G', rt := Q } (za4 zd5 ds) G := fun ds G Q h => by
  obtain ⟨x, s, rfl, hG, ok, q⟩ := h
  refine z3t ok ?_
  dsimp only [zjw, dSeq]
  refine z3e ok ?_
  dsimp only [zjy, dSeq]
  refine z4m ?_
  dsimp only [zj3, dSeq]
  refine z34 ok ?_
  dsimp only [zkd, dSeq]
  refine z4p ok ?_
  dsimp only [zkb, dSeq]
  refine z35 ok ?_
  dsimp only [zj6, zke, dSeq]
  refine zgl (fs' := [("ground", gD s.cs)]) (fun R r => r) (fun R r => r) hG (by decide) rfl ?_
  dsimp only [zkc, zj7, dSeq]
  refine zgl (fs' := [("ground", gD s.cs), ("camera", cD s.cam)]) (fun R r => r) (fun R r => r) zt (by show _ < 1000; simp) rfl ?_
  rw [ze5]
  dsimp only [zkf, zjz, dSeq]
  refine zgl (fs' := [("ground", gD s.cs), ("camera", cD s.cam), ("turns", eT .int s.tu)]) (fun R r => r) (fun R r => r) zt (by show _ < 1000; simp) rfl ?_
  rw [ze5]
  dsimp only [zj8, zka, dSeq]
  refine zgl (fs' := [("ground", gD s.cs), ("camera", cD s.cam), ("turns", eT .int s.tu), ("area", e4 s.ar)]) (fun R r => r) (fun R r => r) zt (by show _ < 1000; simp) rfl ?_
  rw [ze5]
  exact q
def zb4 : DRn := fun l G Q => ∃ (a : Addr) (ns : List Int) (c : Int) (G0 : DHp) (it : D) (ds : List D), l = [.ref a, it] ∧ G = Gw G0 a ns c ∧ ns.length ≤ 63 ∧ (it = .nd .lst ds ∨ it = .nd .tup ds) ∧ 0 < ds.length ∧ ∀ d ∈ ds, Q d (Gw G0 a ns (c + 1))
abbrev zjg : List Str := ["draw", "items"]
def zlx : DTS :=
    (dRet (dOp dIx (zk 1) (dCB zp (zi (zk 0) (zi (dCB dLen (zi (zk 1) dNil)) dNil)))))
theorem zsp : ∀ ds G Q, zb4 ds G Q → ds.length = 2 := fun ds G Q ⟨_, _, _, _, _, _, e, _⟩ => by rw [e]; rfl
theorem zz5 {it : D} {ds : List D} {i : Int} {d : D} {G : DHp} {Q : DVK} (hi : it = .nd .lst ds ∨ it = .nd .tup ds) (h0 : 0 ≤ i) (e : ds[i.toNat]? = some d) (q : Q d G) : dIx it (.int i) G Q := by
  rcases hi with rfl | rfl
  · exact znz h0 e q
  · exact znz h0 e q
theorem zsm : ∀ ds G Q, zb4 ds G Q → zlx { nx := fun _ G' => Q .non G', rt := Q } (za4 zjg ds) G := fun l G Q h => by
  obtain ⟨a, ns, c, G0, it, ds, rfl, rfl, hl, hi, hd, q⟩ := h
  simp_arith only [zlx, zjg]
  rw [zu7 (ds := ds) (by rcases hi with rfl | rfl <;> rfl)]
  refine zb6 (by omega) hl fun r h0 h1 => ?_
  have hr : ds[r.toNat]? = some ds[r.toNat] := List.getElem?_eq_getElem (by omega)
  exact zz5 hi h0 hr (q _ (List.mem_of_getElem? hr))
end M
namespace M
open PySem PySem.Spec PyProof.Rows L2 DL
variable [CA]
theorem z1o (a b : List Int) : PySem.W.dataLe false py (eR a) (eR b) = decide (a ≤ b) := by
  rw [← zx0, PySem.W.dataLe_eq]
  have e : ∀ k : List Int, py (eR k) = .tuple (k.map .int) := fun k => by
    unfold eR
    rw [py]
    congr 1
    induction k with
    | nil => rw [List.map_nil, pys]; rfl
    | cons x k ih => rw [List.map_cons, pys, ih, py]; rfl
  show (cond false _ (!PySem.W.dataLt (py (eR b)) (py (eR a)))) = _
  rw [e, e]; rfl
/-- what sorted(set(..)) tells is the sorted row of the same things -/
theorem z22 {α : Type} [DecidableEq α] {f : α → D} {g : α → List Int} (fg : ∀ a, f a = eR (g a)) (gi : ∀ a b, g a = g b → a = b) {xs ys : List α} {ls : List (List Int)} (nd : ls.Nodup) (hm : ∀ k, k ∈ ls ↔ k ∈ xs.map g) (hx : ∀ a, a ∈ ys ↔ a ∈ xs) (hs : ys.Pairwise fun a b => g a < g b) : srt (ls.map eR) = ys.map f := by
  have hnd : (ys.map g).Nodup := List.pairwise_map.mpr (hs.imp fun h e => by rw [e] at h; exact absurd h (List.lt_irrefl _))
  have p : ls.Perm (ys.map g) := zxm nd hnd fun k => by
    rw [hm, List.mem_map, List.mem_map]
    exact ⟨fun ⟨a, h, e⟩ => ⟨a, (hx a).mpr h, e⟩, fun ⟨a, h, e⟩ => ⟨a, (hx a).mp h, e⟩⟩
  rw [zun, zsg (f := eR) (g := id) z1o (fun _ _ h => h) p, zzb (f := eR) (g := id) z1o (List.pairwise_map.mpr (hs.imp fun h => List.le_of_lt h)), List.map_map]
  exact List.map_congr_left fun a _ => (fg a).symm
inductive Dd where
  | step (fu : Int) (aim : Int × Int) (sl : List (Int × Int))
  | turn (fu aim : Int)
  | look (fu aim : Int)
  | land (fu : Int) (sl : List (Int × Int))
  | away (fu : Int)
def Dd.kind : Dd → Str
  | .step .. => "step"
  | .turn .. => "turn"
  | .look .. => "look"
  | .land .. => "land"
  | .away .. => "away"
def Dd.fuel : Dd → Int
  | .step f _ _ => f
  | .turn f _ => f
  | .look f _ => f
  | .land f _ => f
  | .away f => f
def Dd.aim : Dd → D
  | .step _ a _ => e2 a
  | .turn _ a => .int a
  | .look _ a => .int a
  | .land _ _ => .non
  | .away _ => .non
def Dd.sl : Dd → List (Int × Int)
  | .step _ _ s => s
  | .land _ s => s
  | _ => [(0, 0)]
def ddD (d : Dd) : D := .nd (.ins CA.Deed ["kind", "fuel", "aim", "slips"]) [.str d.kind, .int d.fuel, d.aim, eT e2 d.sl]
def okSh (p : Int × Int) : Prop := (-1000 ≤ p.1 ∧ p.1 ≤ 1000) ∧ -1000 ≤ p.2 ∧ p.2 ≤ 1000
def Dd.okAim : Dd → Prop
  | .step _ a _ => okSh a
  | .turn _ a => 1 ≤ a ∧ a ≤ 3
  | .look _ a => 0 ≤ a ∧ a ≤ 1000
  | _ => True
def lt2 (a b : Int × Int) : Prop := [a.1, a.2] < [b.1, b.2]
structure OkDd (d : Dd) : Prop where
  fu : 1 ≤ d.fuel ∧ d.fuel ≤ 1000
  aim : d.okAim
  ne : d.sl ≠ []
  sh : ∀ p ∈ d.sl, okSh p
  srt : d.sl.Pairwise lt2
  few : d.sl.length < 64
section
variable {G : DHp}
theorem zvg {d : Dd} : fldD CA.Deed "kind" (ddD d) G = some (.str d.kind) := by unfold ddD; rw [zd9]; rfl
theorem zyh {d : Dd} : fldD CA.Deed "fuel" (ddD d) G = some (.int d.fuel) := by unfold ddD; rw [zd9]; rfl
theorem zx8 {d : Dd} : fldD CA.Deed "aim" (ddD d) G = some d.aim := by unfold ddD; rw [zd9]; rfl
theorem zwi {d : Dd} : fldD CA.Deed "slips" (ddD d) G = some (eT e2 d.sl) := by unfold ddD; rw [zd9]; rfl
end
theorem zbv : PyData.strOk ("step" : Str) = true := by decide +kernel
theorem zc2 : PyData.strOk ("turn" : Str) = true := by decide +kernel
theorem zbw : PyData.strOk ("look" : Str) = true := by decide +kernel
theorem zdl : PyData.strOk ("land" : Str) = true := by decide +kernel
theorem zff : PyData.strOk ("away" : Str) = true := by decide +kernel
theorem zyv (d : Dd) : PyData.strOk d.kind = true := match d with
  | .step .. => zbv
  | .turn .. => zc2
  | .look .. => zbw
  | .land .. => zdl
  | .away .. => zff
/-- is_shift, of pairs -/
def zbx : DRn := d1 fun t G Q => ∃ p : Int × Int, t = e2 p ∧ okSh p ∧ Q (.bl true) G
abbrev zi5 : List Str := ["thing", "one"]
def znr : DTS :=
    (dRet (zhq (dCB (dIsi isT) (zi (zk 0) (zi (dC (.ty "tuple")) dNil))) (zhq (dOp dEq (dCB dLen (zi (zk 0) dNil)) (dC (.int 2))) (dCB dAll (zi (dFz (dLc (zgr (zk 0)) (zab 1) dYes (dCB zz (zi (zk 1) (zi (dNeg (dC (.int 1000))) (zi (dC (.int 1000)) dNil)))) [1])) dNil)))))
theorem zue : ∀ ds G Q, zbx ds G Q → ds.length = 1 := fun ds G Q h => by
  match ds, h with
  | [_], _ => rfl
theorem zs4 : ∀ ds G Q, zbx ds G Q → znr { nx := fun _ G' => Q .non G', rt := Q } (za4 zi5 ds) G := fun ds G Q h => by
  match ds, h with
  | [_], ⟨p, rfl, ok, q⟩ =>
    simp_arith only [znr, zi5, e2, zeo]
    rw [zu4]
    simp_arith only [true_and]
    rw [if_pos (by decide)]
    refine zkk (xs := [p.1, p.2]) (f := .int) (fun t : Int => .bl (decide (-1000 ≤ t ∧ t ≤ 1000))) (show 2 ≤ 1000000 by omega) (fun R r => by simp_arith only [zgr]; exact r) (fun t ht G1 A a => ?_) fun w hw => ?_
    · simp_arith only [true_and]
      exact .inl ⟨_, _, _, rfl, rfl, rfl, a⟩
    · simp_arith only [zt, ze1 hw, DO.tree]
      refine zk1 (xs := [p.1, p.2]) (b := fun t : Int => decide (-1000 ≤ t ∧ t ≤ 1000)) ?_
      rw [List.all_eq_true.mpr fun t ht => decide_eq_true ?_]
      · exact q
      · simp only [List.mem_cons, List.not_mem_nil, or_false] at ht
        rcases ht with rfl | rfl
        · exact ok.1
        · exact ok.2
def zef : DRn := d2 fun k a G Q => ∃ d : Dd, k = .str d.kind ∧ a = d.aim ∧ d.okAim ∧ Q (.bl false) G
abbrev zep : List Str := ["kind", "aim"]
def ze4 : DTS :=
    (dSeq (dIfS (zay (dOp dEq (zk 0) (dC (.str "step"))))
    (dRet (zml (dCB zbx (zi (zk 1) dNil))))
    zdd)
    (dSeq (dIfS (zay (dOp dEq (zk 0) (dC (.str "turn"))))
    (dRet (zml (dCB zz (zi (zk 1) (zi (dC (.int 1)) (zi (dC (.int 3)) dNil))))))
    zdd)
    (dSeq (dIfS (zay (dOp dEq (zk 0) (dC (.str "look"))))
    (dRet (zml (dCB zz (zi (zk 1) (zi (dC (.int 0)) (zi (dC (.int 1000)) dNil))))))
    zdd)
    (dRet (dOp (dIsN true) (zk 1) (dC .non))))))
theorem zr5 : ∀ ds G Q, zef ds G Q → ds.length = 2 := fun ds G Q h => by
  match ds, h with
  | [_, _], _ => rfl
theorem zr6 : ∀ ds G Q, zef ds G Q → ze4 { nx := fun _ G' => Q .non G', rt := Q } (za4 zep ds) G := fun ds G Q h => by
  match ds, h with
  | [_, _], ⟨d, rfl, rfl, ok, q⟩ =>
    cases d with
    | step f a s =>
      simp_arith only [ze4, zep]
      refine zak zbv zbv true (show (("step" : Str) == "step") = true by decide +kernel) ?_
      simp_arith only [true_and]
      exact ⟨a, rfl, ok, q⟩
    | turn f a =>
      simp_arith only [ze4, zep]
      refine zak zc2 zbv false (show (("turn" : Str) == "step") = false by decide +kernel) ?_
      simp_arith only [true_and]
      refine zak zc2 zc2 true (show (("turn" : Str) == "turn") = true by decide +kernel) ?_
      simp_arith only [true_and]
      refine .inl ⟨a, 1, 3, rfl, rfl, rfl, ?_⟩
      rw [decide_eq_true (show _ ∧ _ from ok)]
      exact q
    | look f a =>
      simp_arith only [ze4, zep]
      refine zak zbw zbv false (show (("look" : Str) == "step") = false by decide +kernel) ?_
      simp_arith only [true_and]
      refine zak zbw zc2 false (show (("look" : Str) == "turn") = false by decide +kernel) ?_
      simp_arith only [true_and]
      refine zak zbw zbw true (show (("look" : Str) == "look") = true by decide +kernel) ?_
      simp_arith only [true_and]
      refine .inl ⟨a, 0, 1000, rfl, rfl, rfl, ?_⟩
      rw [decide_eq_true (show _ ∧ _ from ok)]
      exact q
    | land f s =>
      simp_arith only [ze4, zep]
      refine zak zdl zbv false (show (("land" : Str) == "step") = false by decide +kernel) ?_
      simp_arith only [true_and]
      refine zak zdl zc2 false (show (("land" : Str) == "turn") = false by decide +kernel) ?_
      simp_arith only [true_and]
      refine zak zdl zbw false (show (("land" : Str) == "look") = false by decide +kernel) ?_
      simp_arith only [true_and]
      exact q
    | away f =>
      simp_arith only [ze4, zep]
      refine zak zff zbv false (show (("away" : Str) == "step") = false by decide +kernel) ?_
      simp_arith only [true_and]
      refine zak zff zc2 false (show (("away" : Str) == "turn") = false by decide +kernel) ?_
      simp_arith only [true_and]
      refine zak zff zbw false (show (("away" : Str) == "look") = false by decide +kernel) ?_
      simp_arith only [true_and]
      exact q
end M
namespace M
open PySem PySem.Spec PyProof.Rows L2 DL
variable [CA]
theorem ztj (x : Str) : (py (.str x)).depth ≤ 64 := by rw [py, PyData.depth]; decide
def Dd.calm : Dd → Prop
  | .step .. => False
  | .land .. => False
  | _ => True
def k2 (p : Int × Int) : List Int := [p.1, p.2]
theorem zy4 (a b : Int × Int) (h : k2 a = k2 b) : a = b := by
  unfold k2 at h
  simp only [List.cons.injEq, and_true] at h
  exact Prod.ext h.1 h.2
theorem z2o (p : Int × Int) : e2 p = eR (k2 p) := rfl
/-- what is made of a kind, a fuel, an aim, slips -/
structure Mk4 (d : Dd) (sl : List (Int × Int)) : Prop where
  ok : OkDd d
  mem : ∀ p, p ∈ d.sl ↔ p ∈ sl
  few : sl.length < 64
  calm : d.calm → sl = [(0, 0)]
def z4b (d : Dd) : List (Str × D) := [("kind", .str d.kind), ("fuel", .int d.fuel), ("aim", d.aim), ("slips", eT e2 d.sl)]
def zq : DRn := fun ds G Q => ∃ (x : Addr) (d : Dd) (sl : List (Int × Int)), ds = [.ref x, .str d.kind, .int d.fuel, d.aim, eT e2 sl] ∧ G x = some (.ins CA.Deed []) ∧ Mk4 d sl ∧ Q .non (up G x (.ins CA.Deed (z4b d)))
abbrev zfp : List Str := ["self", "kind", "fuel", "aim", "slips", "one"]
def zfy : DTS :=
    (dIfS (zay (dOp (dIn true) (zk 1) (dC (.nd .tup [.str "step", .str "turn", .str "look", .str "land", .str "away"]))))
    zcp
    zdd)
def zgb : DTS :=
    (dIfS (dNot (zay (dCB zz (zi (zk 2) (zi (dC (.int 1)) (zi (dC (.int 1000)) dNil))))))
    zcp
    zdd)
def zf9 : DTS :=
    (dIfS (zay (dCB zef (zi (zk 1) (zi (zk 3) dNil))))
    zcp
    zdd)
def zf0 : DTS :=
    (dIfS (dOr (dNot (zay (dCB (dIsi isT) (zi (zk 4) (zi (dC (.ty "tuple")) dNil))))) (dOr (zay (dOp dEq (zk 4) (dTup dNil))) (dNot (zay (dCB dAll (zi (dFz (dLc (zgr (zk 4)) (zab 5) dYes (dCB zbx (zi (zk 5) dNil)) [5])) dNil))))))
    zcp
    zdd)
def zf5 : DTS :=
    (dIfS (dAnd (zay (dOp (dIn false) (zk 1) (dTup (zi (dC (.str "turn")) (zi (dC (.str "look")) (zi (dC (.str "away")) dNil)))))) (zay (dOp dNe (zk 4) (dTup (zi (dTup (zi (dC (.int 0)) (zi (dC (.int 0)) dNil))) dNil)))))
    zcp
    zdd)
def zi4 : DTS :=
    (zik CA.Deed "kind" (zk 0) (zk 1))
def ziu : DTS :=
    (zik CA.Deed "fuel" (zk 0) (zk 2))
def zi0 : DTS :=
    (zik CA.Deed "aim" (zk 0) (zk 3))
def ziw : DTS :=
    (zik CA.Deed "slips" (zk 0) (dCB zll (zi (dFz (zuu (zk 4))) dNil)))
def ziq : DTS :=
    ziw
def zi3 : DTS :=
    (dSeq zi0 ziq)
def zin : DTS :=
    (dSeq ziu zi3)
def zi6 : DTS :=
    (dSeq zi4 zin)
def zis : DTS :=
    (dSeq zf5 zi6)
def zi1 : DTS :=
    (dSeq zf0 zis)
def zja : DTS :=
    (dSeq zf9 zi1)
def ziz : DTS :=
    (dSeq zgb zja)
def zkn : DTS :=
    (dSeq zfy ziz)
theorem znl : ∀ ds G Q, zq ds G Q → ds.length = 5 := fun ds G Q ⟨x, d, sl, e, _⟩ => by rw [e]; rfl
def stDd (x : Addr) (d : Dd) (sl : List (Int × Int)) : DSt := [some (.ref x), some (.str d.kind), some (.int d.fuel), some d.aim, some (eT e2 sl), none]
section
variable {F : ziv} {x : Addr} {d : Dd} {sl : List (Int × Int)} {G : DHp}
theorem z5k (k : F.nx (stDd x d sl) G) : zfy F (stDd x d sl) G := by
  simp_arith only [zfy, stDd, zcp]
  refine zyi (ds := [.str "step", .str "turn", .str "look", .str "land", .str "away"]) (.inr rfl) (zyv d) (by decide +kernel) (ztj _) true ⟨fun _ => ?_, fun _ => rfl⟩ ?_
  · cases d <;> simp [Dd.kind]
  · simp_arith only [true_and]
    exact k
theorem z45 (m : Mk4 d sl) (k : F.nx (stDd x d sl) G) : zgb F (stDd x d sl) G := by
  simp_arith only [zgb, stDd, zcp]
  refine .inl ⟨d.fuel, 1, 1000, rfl, rfl, rfl, ?_⟩
  rw [decide_eq_true m.ok.fu]
  simp_arith only [true_and]
  exact k
theorem z42 (m : Mk4 d sl) (k : F.nx (stDd x d sl) G) : zf9 F (stDd x d sl) G := by
  simp_arith only [zf9, stDd, zcp]
  refine ⟨d, rfl, rfl, m.ok.aim, ?_⟩
  simp_arith only [true_and]
  exact k
theorem z5h (m : Mk4 d sl) (k : F.nx (stDd x d sl) G) : zf0 F (stDd x d sl) G := by
  simp_arith only [zf0, stDd, zcp, eT, zeo]
  have hne : sl ≠ [] := fun e => by
    obtain ⟨p, hp⟩ := List.exists_mem_of_ne_nil _ m.ok.ne
    rw [m.mem, e] at hp
    cases hp
  have few := m.few
  refine zrf (zg2 (f := e2) zrx sl) rfl (Nat.le_trans (zgg (B := 1) (f := e2) zmj sl) (by decide)) (show PyData.depth (py (.nd .tup [])) ≤ 64 by decide) false ⟨fun z => (by cases z), fun z => ?_⟩ ?_
  · exfalso
    have z2 : D.nd .tup (sl.map e2) = .nd .tup [] := z
    have z3 : sl.map e2 = [] := by injection z2
    exact hne (List.map_eq_nil_iff.mp z3)
  · simp_arith only [true_and]
    refine zkk (xs := sl) (f := e2) (fun _ => .bl true) (by omega) (fun R r => by simp_arith only [zgr]; exact r) (fun t ht G1 A a => ?_) fun p hp => ?_
    · simp_arith only [true_and]
      exact ⟨t, rfl, m.ok.sh t ((m.mem t).mpr ht), a⟩
    · simp_arith only [zt, ze1 hp, DO.tree]
      refine zk1 (xs := sl) (b := fun _ => true) ?_
      rw [List.all_eq_true.mpr fun t ht => rfl]
      simp_arith only [true_and]
      exact k
theorem z5d (m : Mk4 d sl) (k : F.nx (stDd x d sl) G) : zf5 F (stDd x d sl) G := by
  simp_arith only [zf5, stDd, zcp, eT]
  have go : ∀ (b : Bool) (Q : DVK), (b = true ↔ D.str d.kind ∈ [D.str "turn", .str "look", .str "away"]) → Q (.bl b) G → dIn false (.str d.kind) (.nd .tup [.str "turn", .str "look", .str "away"]) G Q := fun b Q hb q => by
    refine zyi (ds := [.str "turn", .str "look", .str "away"]) (.inr rfl) (zyv d) (by decide +kernel) (ztj _) b hb ?_
    simp_arith only [true_and]
    exact q
  by_cases hc : d.calm
  · refine go true _ ⟨fun _ => ?_, fun _ => rfl⟩ ?_
    · cases d with
      | step _ _ _ => exact hc.elim
      | land _ _ => exact hc.elim
      | _ => simp [Dd.kind]
    · simp_arith only [true_and]
      have e := m.calm hc
      subst e
      refine zwm (d := .nd .tup [e2 (0, 0)]) rfl rfl (by show PyData.depth (py (.nd .tup [e2 (0, 0)])) ≤ 64; decide) (by show PyData.depth (py (.nd .tup [e2 (0, 0)])) ≤ 64; decide) false ⟨fun z => (by cases z), fun z => absurd rfl z⟩ ?_
      simp_arith only [true_and]
      exact k
  · refine go false _ ⟨fun z => (by cases z), fun z => ?_⟩ ?_
    · exfalso
      cases d with
      | step f a s =>
        have : (Str.ofString "step") ∈ [Str.ofString "turn", Str.ofString "look", Str.ofString "away"] := by simpa [Dd.kind] using z
        exact absurd this (by decide +kernel)
      | land f s =>
        have : (Str.ofString "land") ∈ [Str.ofString "turn", Str.ofString "look", Str.ofString "away"] := by simpa [Dd.kind] using z
        exact absurd this (by decide +kernel)
      | turn _ _ => exact hc trivial
      | look _ _ => exact hc trivial
      | away _ => exact hc trivial
    · simp_arith only [true_and]
      exact k
end
theorem znd : ∀ ds G Q, zq ds G Q → zkn { nx := fun _ G' => Q .non G', rt := Q } (za4 zfp ds) G := fun ds G Q h => by
  obtain ⟨x, d, sl, rfl, hG, m, q⟩ := h
  refine z5k ?_
  dsimp only [ziz, dSeq]
  refine z45 m ?_
  dsimp only [zja, dSeq]
  refine z42 m ?_
  dsimp only [zi1, dSeq]
  refine z5h m ?_
  dsimp only [zis, dSeq]
  refine z5d m ?_
  dsimp only [zi6, zi4, dSeq]
  refine zgl (fs' := [("kind", .str d.kind)]) (fun R r => r) (fun R r => r) hG (by decide) rfl ?_
  dsimp only [zin, ziu, dSeq]
  refine zgl (fs' := [("kind", .str d.kind), ("fuel", .int d.fuel)]) (fun R r => r) (fun R r => r) zt (by show _ < 1000; simp) rfl ?_
  rw [ze5]
  dsimp only [zi3, zi0, dSeq]
  refine zgl (fs' := [("kind", .str d.kind), ("fuel", .int d.fuel), ("aim", d.aim)]) (fun R r => r) (fun R r => r) zt (by show _ < 1000; simp) rfl ?_
  rw [ze5]
  dsimp only [ziq, ziw, dSeq]
  refine zgl (y := eT e2 d.sl) (fs' := z4b d) (fun R r => r) (fun R r => ?_) zt (by show _ < 1000; simp) rfl ?_
  · simp_arith only [zuu, stDd]
    refine ⟨sl.map k2, by show some (sl.map e2) = _; rw [List.map_map]; rfl, by rw [List.length_map]; exact m.few, fun k hk => ?_, fun ls nd hm p hp => ?_⟩
    · obtain ⟨p, _, rfl⟩ := List.mem_map.mp hk
      exact fun e => nomatch e
    · rw [z22 (f := e2) (g := k2) z2o zy4 nd hm m.mem m.ok.srt]
      simp_arith only [zt, ze1 hp, DO.tree]
      rw [zl1 (ds := d.sl.map e2) rfl]
      exact r
  · rw [ze5]
    exact q
def zl8 : DRn := fun ds G Q => ∃ (f : Int) (a : Int × Int) (s sl : List (Int × Int)), ds = [.int f, e2 a, eT e2 sl] ∧ Mk4 (.step f a s) sl ∧ Q (ddD (.step f a s)) G
abbrev zw1 : List Str := ["fuel", "aim", "slips"]
def zyu : DTS :=
    (dRet (dFz (zfl CA.Deed zq (zi (dC (.str "step")) (zi (zk 0) (zi (zk 1) (zi (zk 2) dNil)))))))
theorem z00 : ∀ ds G Q, zl8 ds G Q → ds.length = 3 := fun ds G Q ⟨f, a, s, sl, e, _⟩ => by rw [e]; rfl
theorem zzm : ∀ ds G Q, zl8 ds G Q → zyu { nx := fun _ G' => Q .non G', rt := Q } (za4 zw1 ds) G := fun ds G Q h => by
  obtain ⟨f, a, s, sl, rfl, m, q⟩ := h
  simp_arith only [zyu, zw1, zfl]
  intro p hp
  refine ⟨p, .step f a s, sl, rfl, zt, m, ?_⟩
  rw [ze5]
  refine ⟨rfl, ?_⟩
  simp_arith only [zt, ze1 hp]
  exact q
def zlo : DRn := fun ds G Q => ∃ (f a : Int), ds = [.int f, .int a] ∧ Mk4 (.turn f a) [(0, 0)] ∧ Q (ddD (.turn f a)) G
abbrev zwk : List Str := ["fuel", "aim"]
def zys : DTS :=
    (dRet (dFz (zfl CA.Deed zq (zi (dC (.str "turn")) (zi (zk 0) (zi (zk 1) (zi (dTup (zi (dTup (zi (dC (.int 0)) (zi (dC (.int 0)) dNil))) dNil)) dNil)))))))
theorem z0o : ∀ ds G Q, zlo ds G Q → ds.length = 2 := fun ds G Q ⟨f, a, e, _⟩ => by rw [e]; rfl
theorem zzi : ∀ ds G Q, zlo ds G Q → zys { nx := fun _ G' => Q .non G', rt := Q } (za4 zwk ds) G := fun ds G Q h => by
  obtain ⟨f, a, rfl, m, q⟩ := h
  simp_arith only [zys, zwk, zfl]
  intro p hp
  refine ⟨p, .turn f a, [(0, 0)], rfl, zt, m, ?_⟩
  rw [ze5]
  refine ⟨rfl, ?_⟩
  simp_arith only [zt, ze1 hp]
  exact q
def zl2 : DRn := fun ds G Q => ∃ (f a : Int), ds = [.int f, .int a] ∧ Mk4 (.look f a) [(0, 0)] ∧ Q (ddD (.look f a)) G
abbrev zw0 : List Str := ["fuel", "aim"]
def zy9 : DTS :=
    (dRet (dFz (zfl CA.Deed zq (zi (dC (.str "look")) (zi (zk 0) (zi (zk 1) (zi (dTup (zi (dTup (zi (dC (.int 0)) (zi (dC (.int 0)) dNil))) dNil)) dNil)))))))
theorem zz1 : ∀ ds G Q, zl2 ds G Q → ds.length = 2 := fun ds G Q ⟨f, a, e, _⟩ => by rw [e]; rfl
theorem z0y : ∀ ds G Q, zl2 ds G Q → zy9 { nx := fun _ G' => Q .non G', rt := Q } (za4 zw0 ds) G := fun ds G Q h => by
  obtain ⟨f, a, rfl, m, q⟩ := h
  simp_arith only [zy9, zw0, zfl]
  intro p hp
  refine ⟨p, .look f a, [(0, 0)], rfl, zt, m, ?_⟩
  rw [ze5]
  refine ⟨rfl, ?_⟩
  simp_arith only [zt, ze1 hp]
  exact q
def zln : DRn := fun ds G Q => ∃ (f : Int) (s sl : List (Int × Int)), ds = [.int f, eT e2 sl] ∧ Mk4 (.land f s) sl ∧ Q (ddD (.land f s)) G
abbrev zwr : List Str := ["fuel", "slips"]
def zye : DTS :=
    (dRet (dFz (zfl CA.Deed zq (zi (dC (.str "land")) (zi (zk 0) (zi (dC .non) (zi (zk 1) dNil)))))))
theorem zzo : ∀ ds G Q, zln ds G Q → ds.length = 2 := fun ds G Q ⟨f, s, sl, e, _⟩ => by rw [e]; rfl
theorem zz6 : ∀ ds G Q, zln ds G Q → zye { nx := fun _ G' => Q .non G', rt := Q } (za4 zwr ds) G := fun ds G Q h => by
  obtain ⟨f, s, sl, rfl, m, q⟩ := h
  simp_arith only [zye, zwr, zfl]
  intro p hp
  refine ⟨p, .land f s, sl, rfl, zt, m, ?_⟩
  rw [ze5]
  refine ⟨rfl, ?_⟩
  simp_arith only [zt, ze1 hp]
  exact q
def zly : DRn := fun ds G Q => ∃ (f : Int), ds = [.int f] ∧ Mk4 (.away f) [(0, 0)] ∧ Q (ddD (.away f)) G
abbrev zv3 : List Str := ["fuel"]
def zzh : DTS :=
    (dRet (dFz (zfl CA.Deed zq (zi (dC (.str "away")) (zi (zk 0) (zi (dC .non) (zi (dTup (zi (dTup (zi (dC (.int 0)) (zi (dC (.int 0)) dNil))) dNil)) dNil)))))))
theorem z0x : ∀ ds G Q, zly ds G Q → ds.length = 1 := fun ds G Q ⟨f, e, _⟩ => by rw [e]; rfl
theorem z0t : ∀ ds G Q, zly ds G Q → zzh { nx := fun _ G' => Q .non G', rt := Q } (za4 zv3 ds) G := fun ds G Q h => by
  obtain ⟨f, rfl, m, q⟩ := h
  simp_arith only [zzh, zv3, zfl]
  intro p hp
  refine ⟨p, .away f, [(0, 0)], rfl, zt, m, ?_⟩
  rw [ze5]
  refine ⟨rfl, ?_⟩
  simp_arith only [zt, ze1 hp]
  exact q
end M
namespace M
open PySem PySem.Spec PyProof.Rows L2 DL
variable [CA]
theorem zkp {cs : List Addr} {C : Addr} {ns : List Str} {ds : List D} {G : DHp} {Q : DVK} (h : C ∈ cs) (q : Q (.bl true) G) : (dIsi (zlg cs)) [.nd (.ins C ns) ds, .ref C] G Q := by
  show (match zlg cs (.ref C) (.ref C) with | some b => Q (.bl b) G | none => False)
  unfold zlg
  dsimp only
  rw [if_pos ⟨rfl, h⟩]
  exact q
theorem z3j {a b : List Pt} : eT e3 a = eT e3 b ↔ a = b := z31 z3h
def zai : DRn := d2 fun a b G Q => ∃ cs cs' : List Pt, a = gD cs ∧ b = gD cs' ∧ Q (.bl (decide (cs = cs'))) G
abbrev zfg : List Str := ["self", "other"]
def zhv : DTS :=
    (dRet (zhq (dCB (dIsi isT) (zi (zk 1) (zi (dC (.ref CA.Ground)) dNil))) (dOp dEq (dFld CA.Ground "craters" (zk 0)) (dFld CA.Ground "craters" (zk 1)))))
theorem zn1 : ∀ ds G Q, zai ds G Q → ds.length = 2 := fun ds G Q h => by
  match ds, h with
  | [_, _], _ => rfl
theorem znh : ∀ ds G Q, zai ds G Q → zhv { nx := fun _ G' => Q .non G', rt := Q } (za4 zfg ds) G := fun ds G Q h => by
  match ds, h with
  | [_, _], ⟨cs, cs', rfl, rfl, q⟩ =>
    simp_arith only [zhv, zfg]
    refine zkp (by simp) ?_
    simp_arith only [dFld, zni]
    refine zrf (zg2 (f := e3) zjp cs) (zg2 (f := e3) zjp cs') (Nat.le_trans (zgg (B := 1) (f := e3) zjj cs) (by decide)) (Nat.le_trans (zgg (B := 1) (f := e3) zjj cs') (by decide)) (decide (cs = cs')) ?_ q
    rw [decide_eq_true_eq]
    exact z3j.symm
def zk3 : D → Prop := fun d => ∃ cs, d = gD cs
theorem zxc {d : D} {G : DHp} {Q : DVK} (p : zk3 d) (q : Q (.bl true) G) : zai [d, d] G Q := by
  obtain ⟨cs, rfl⟩ := p
  exact ⟨cs, cs, rfl, rfl, by rw [decide_eq_true rfl]; exact q⟩
theorem zvb {d : D} (p : zk3 d) : ∃ fs ds, d = .nd (.ins CA.Ground fs) ds := by
  obtain ⟨cs, rfl⟩ := p
  exact ⟨_, _, rfl⟩
structure Cr where
  cs : List Pt
  tu : List Int
  ar : Int × Int × Int × Int
  cams : List Cam
  foot : Int × Int
  room : Int
  deeds : List Dd
def Cr.sk (c : Cr) (cam : Cam) : Sk := ⟨c.cs, cam, c.tu, c.ar⟩
def Cr.skies (c : Cr) : D := .nd .tup (c.cams.map fun cam => sD (c.sk cam))
def crD (c : Cr) : D := .nd (.ins CA.Craft ["skies", "foot", "room", "deeds"]) [c.skies, e2 c.foot, .int c.room, eT ddD c.deeds]
structure OkCr (c : Cr) : Prop where
  ne : c.cams ≠ []
  cl : c.cams.length ≤ 100
  foot : okSh c.foot
  room : 0 ≤ c.room ∧ c.room ≤ 1000
  dl : c.deeds.length ≤ 1000
  dd : ∀ d ∈ c.deeds, OkDd d
  look : ∀ f a, Dd.look f a ∈ c.deeds → a < c.cams.length
section
variable {G : DHp}
theorem zwz {c : Cr} : fldD CA.Craft "skies" (crD c) G = some c.skies := by unfold crD; rw [zd9]; rfl
theorem zy3 {c : Cr} : fldD CA.Craft "foot" (crD c) G = some (e2 c.foot) := by unfold crD; rw [zd9]; rfl
theorem zyr {c : Cr} : fldD CA.Craft "room" (crD c) G = some (.int c.room) := by unfold crD; rw [zd9]; rfl
theorem zsq {c : Cr} : fldD CA.Craft "deeds" (crD c) G = some (eT ddD c.deeds) := by unfold crD; rw [zd9]; rfl
end
def zbm : DRn := fun ds G Q => ∃ c : Cr, ds = [c.skies] ∧ c.cams ≠ [] ∧ c.cams.length ≤ 100 ∧ Q (.bl true) G
abbrev zdw : List Str := ["skies", "first", "one"]
def zf1 : DTS :=
    (dSeq (dAsg (dOp dIx (zk 0) (dC (.int 0))) (zab 1))
    (dRet (dCB dAll (zi (dFz (dLc (zgr (zk 0)) (zab 2) dYes (dOp (z3a zk3 2) (dTup (zi (dFld CA.Sky "ground" (zk 2)) (zi (dFld CA.Sky "turns" (zk 2)) (zi (dFld CA.Sky "area" (zk 2)) dNil)))) (dTup (zi (dFld CA.Sky "ground" (zk 1)) (zi (dFld CA.Sky "turns" (zk 1)) (zi (dFld CA.Sky "area" (zk 1)) dNil))))) [2])) dNil))))
theorem zma : ∀ ds G Q, zbm ds G Q → ds.length = 1 := fun ds G Q ⟨c, e, _⟩ => by rw [e]; rfl
theorem zxv (xs : List Int) : SmT zk3 2 (eT .int xs) := .inr (.inl ⟨_, rfl, fun e he => by
  obtain ⟨i, _, rfl⟩ := List.mem_map.mp he
  exact .inl (.inr (.inl ⟨i, rfl⟩))⟩)
theorem z5a (a : Int × Int × Int × Int) : SmT zk3 2 (e4 a) := zxv [a.1, a.2.1, a.2.2.1, a.2.2.2]
theorem zl5 : ∀ ds G Q, zbm ds G Q → zf1 { nx := fun _ G' => Q .non G', rt := Q } (za4 zdw ds) G := fun ds G Q h => by
  obtain ⟨c, rfl, hne, hl, q⟩ := h
  simp_arith only [zf1, zdw, Cr.skies]
  obtain ⟨c0, l, hc⟩ : ∃ c0 l, c.cams = c0 :: l := by
    cases e : c.cams with
    | nil => exact absurd e hne
    | cons a l => exact ⟨a, l, rfl⟩
  refine zie (d := sD (c.sk c0)) (by decide) (by rw [hc]; rfl) ?_
  refine zkk (xs := c.cams) (f := fun cam => sD (c.sk cam)) (fun _ => .bl true) (by omega) (fun R r => by simp_arith only [zgr]; exact r) (fun t ht G1 A a => ?_) fun p hp => ?_
  · simp_arith only [dFld, zqd, zle, zl3]
    refine ⟨⟨_, rfl, rfl, fun e he => ?_⟩, a⟩
    simp only [List.mem_cons, List.not_mem_nil, or_false] at he
    rcases he with rfl | rfl | rfl
    · exact .inr (.inr ⟨_, rfl⟩)
    · exact zxv _
    · exact z5a _
  · simp_arith only [zt, ze1 hp, DO.tree]
    refine zk1 (xs := c.cams) (b := fun _ => true) ?_
    rw [List.all_eq_true.mpr fun t ht => rfl]
    exact q
def zv9 (c : Cr) : List (Str × D) := [("skies", c.skies), ("foot", e2 c.foot), ("room", .int c.room), ("deeds", eT ddD c.deeds)]
def za3 : DRn := fun ds G Q => ∃ (x : Addr) (c : Cr), ds = [.ref x, c.skies, e2 c.foot, .int c.room, eT ddD c.deeds] ∧ G x = some (.ins CA.Craft []) ∧ OkCr c ∧ Q .non (up G x (.ins CA.Craft (zv9 c)))
abbrev zc8 : List Str := ["self", "skies", "foot", "room", "deeds", "one"]
def zfs : DTS :=
    (dIfS (dOr (dNot (zay (dCB (dIsi isT) (zi (zk 1) (zi (dC (.ty "tuple")) dNil))))) (dOr (zay (dOp (dEmp false) (zk 1) (dTup dNil))) (dNot (zay (dCB dAll (zi (dFz (dLc (zgr (zk 1)) (zab 5) dYes (dCB (dIsi isT) (zi (zk 5) (zi (dC (.ref CA.Sky)) dNil))) [5])) dNil))))))
    zcp
    zdd)
def zfj : DTS :=
    (dIfS (dNot (zay (dCB zbm (zi (zk 1) dNil))))
    zcp
    zdd)
def zfm : DTS :=
    (dIfS (dNot (zay (dCB zbx (zi (zk 2) dNil))))
    zcp
    zdd)
def zfu : DTS :=
    (dIfS (dNot (zay (dCB zz (zi (zk 3) (zi (dC (.int 0)) (zi (dC (.int 1000)) dNil))))))
    zcp
    zdd)
def zfk : DTS :=
    (dIfS (dOr (dNot (zay (dCB (dIsi isT) (zi (zk 4) (zi (dC (.ty "tuple")) dNil))))) (dNot (zay (dCB dAll (zi (dFz (dLc (zgr (zk 4)) (zab 5) dYes (dCB (dIsi isT) (zi (zk 5) (zi (dC (.ref CA.Deed)) dNil))) [5])) dNil)))))
    zcp
    zdd)
def zfo : DTS :=
    (dIfS (zay (dCB dAny (zi (dFz (dLc (zgr (zk 4)) (zab 5) dYes (zhq (dOp dEq (dFld CA.Deed "kind" (zk 5)) (dC (.str "look"))) (dOp dGe (dFld CA.Deed "aim" (zk 5)) (dCB dLen (zi (zk 1) dNil)))) [5])) dNil)))
    zcp
    zdd)
def zih : DTS :=
    (zik CA.Craft "skies" (zk 0) (zk 1))
def zig : DTS :=
    (zik CA.Craft "foot" (zk 0) (zk 2))
def zh6 : DTS :=
    (zik CA.Craft "room" (zk 0) (zk 3))
def zic : DTS :=
    (zik CA.Craft "deeds" (zk 0) (zk 4))
def zid : DTS :=
    zic
def zh3 : DTS :=
    (dSeq zh6 zid)
def zh7 : DTS :=
    (dSeq zig zh3)
def zia : DTS :=
    (dSeq zih zh7)
def zhy : DTS :=
    (dSeq zfo zia)
def zh8 : DTS :=
    (dSeq zfk zhy)
def zh9 : DTS :=
    (dSeq zfu zh8)
def zib : DTS :=
    (dSeq zfm zh9)
def zhz : DTS :=
    (dSeq zfj zib)
def zj5 : DTS :=
    (dSeq zfs zhz)
theorem zm3 : ∀ ds G Q, za3 ds G Q → ds.length = 5 := fun ds G Q ⟨x, c, e, _⟩ => by rw [e]; rfl
def stCr (x : Addr) (c : Cr) : DSt := [some (.ref x), some c.skies, some (e2 c.foot), some (.int c.room), some (eT ddD c.deeds), none]
section
variable {F : ziv} {x : Addr} {c : Cr} {G : DHp}
theorem z5g (ok : OkCr c) (k : F.nx (stCr x c) G) : zfs F (stCr x c) G := by
  have cl := ok.cl
  simp_arith only [zfs, stCr, zcp, Cr.skies, zeo]
  show (dEmp false (.nd .tup (c.cams.map fun cam => sD (c.sk cam))) (.nd .tup []) G _)
  unfold dEmp
  dsimp only
  have he : (c.cams.map fun cam => sD (c.sk cam)).isEmpty = false := by
    cases e : c.cams with
    | nil => exact absurd e ok.ne
    | cons a l => rfl
  rw [he]
  simp_arith only [true_and]
  refine zkk (xs := c.cams) (f := fun cam => sD (c.sk cam)) (fun _ => .bl true) (by omega) (fun R r => by simp_arith only [zgr]; exact r) (fun t ht G1 A a => ?_) fun p hp => ?_
  · simp_arith only [true_and]
    exact zkp (by simp) a
  · simp_arith only [zt, ze1 hp, DO.tree]
    refine zk1 (xs := c.cams) (b := fun _ => true) ?_
    rw [List.all_eq_true.mpr fun t ht => rfl]
    simp_arith only [true_and]
    exact k
theorem z43 (ok : OkCr c) (k : F.nx (stCr x c) G) : zfj F (stCr x c) G := by
  simp_arith only [zfj, stCr, zcp]
  refine ⟨c, rfl, ok.ne, ok.cl, ?_⟩
  simp_arith only [true_and]
  exact k
theorem z5f (ok : OkCr c) (k : F.nx (stCr x c) G) : zfm F (stCr x c) G := by
  simp_arith only [zfm, stCr, zcp]
  refine ⟨c.foot, rfl, ok.foot, ?_⟩
  simp_arith only [true_and]
  exact k
theorem z4x (ok : OkCr c) (k : F.nx (stCr x c) G) : zfu F (stCr x c) G := by
  simp_arith only [zfu, stCr, zcp]
  refine .inl ⟨c.room, 0, 1000, rfl, rfl, rfl, ?_⟩
  rw [decide_eq_true ok.room]
  simp_arith only [true_and]
  exact k
theorem z4v (ok : OkCr c) (k : F.nx (stCr x c) G) : zfk F (stCr x c) G := by
  have hl := ok.dl
  simp_arith only [zfk, stCr, zcp, eT, zeo]
  refine zkk (xs := c.deeds) (f := ddD) (fun _ => .bl true) (by omega) (fun R r => by simp_arith only [zgr]; exact r) (fun t ht G1 A a => ?_) fun p hp => ?_
  · simp_arith only [true_and]
    exact zkp (by simp) a
  · simp_arith only [zt, ze1 hp, DO.tree]
    refine zk1 (xs := c.deeds) (b := fun _ => true) ?_
    rw [List.all_eq_true.mpr fun t ht => rfl]
    simp_arith only [true_and]
    exact k
theorem z4z (ok : OkCr c) (k : F.nx (stCr x c) G) : zfo F (stCr x c) G := by
  have hl := ok.dl
  simp_arith only [zfo, stCr, zcp, eT]
  refine zkk (xs := c.deeds) (f := ddD) (fun _ => .bl false) (by omega) (fun R r => by simp_arith only [zgr]; exact r) (fun t ht G1 A a => ?_) fun p hp => ?_
  · simp_arith only [dFld, zvg]
    cases t with
    | look f n =>
      refine zak zbw zbw true (show (("look" : Str) == "look") = true by decide +kernel) ?_
      simp_arith only [zx8, Dd.aim, Cr.skies]
      rw [zu4]
      have := ok.look f n ht
      simp_arith only [List.length_map]
      rw [decide_eq_false (by omega)]
      exact a
    | step f n s =>
      refine zak zbv zbw false (show (("step" : Str) == "look") = false by decide +kernel) ?_
      simp_arith only [true_and]
      exact a
    | turn f n =>
      refine zak zc2 zbw false (show (("turn" : Str) == "look") = false by decide +kernel) ?_
      simp_arith only [true_and]
      exact a
    | land f s =>
      refine zak zdl zbw false (show (("land" : Str) == "look") = false by decide +kernel) ?_
      simp_arith only [true_and]
      exact a
    | away f =>
      refine zak zff zbw false (show (("away" : Str) == "look") = false by decide +kernel) ?_
      simp_arith only [true_and]
      exact a
  · simp_arith only [zt, ze1 hp, DO.tree]
    refine z2y (xs := c.deeds) (b := fun _ => false) ?_
    rw [show (c.deeds.any fun _ => false) = false by rw [List.any_eq_false]; intro x _; exact Bool.false_ne_true]
    simp_arith only [true_and]
    exact k
end
theorem zm0 : ∀ ds G Q, za3 ds G Q → zj5 { nx := fun _ G' => Q .non G', rt := Q } (za4 zc8 ds) G := fun ds G Q h => by
  obtain ⟨x, c, rfl, hG, ok, q⟩ := h
  refine z5g ok ?_
  dsimp only [zhz, dSeq]
  refine z43 ok ?_
  dsimp only [zib, dSeq]
  refine z5f ok ?_
  dsimp only [zh9, dSeq]
  refine z4x ok ?_
  dsimp only [zh8, dSeq]
  refine z4v ok ?_
  dsimp only [zhy, dSeq]
  refine z4z ok ?_
  dsimp only [zia, zih, dSeq]
  refine zgl (fs' := [("skies", c.skies)]) (fun R r => r) (fun R r => r) hG (by decide) rfl ?_
  dsimp only [zh7, zig, dSeq]
  refine zgl (fs' := [("skies", c.skies), ("foot", e2 c.foot)]) (fun R r => r) (fun R r => r) zt (by show _ < 1000; simp) rfl ?_
  rw [ze5]
  dsimp only [zh3, zh6, dSeq]
  refine zgl (fs' := [("skies", c.skies), ("foot", e2 c.foot), ("room", .int c.room)]) (fun R r => r) (fun R r => r) zt (by show _ < 1000; simp) rfl ?_
  rw [ze5]
  dsimp only [zid, zic, dSeq]
  refine zgl (fs' := zv9 c) (fun R r => r) (fun R r => r) zt (by show _ < 1000; simp) rfl ?_
  rw [ze5]
  exact q
end M
namespace M
open PySem PySem.Spec PyProof.Rows L2 DL
variable [CA]
def k3 (p : Pt) : List Int := [p.1, p.2.1, p.2.2]
theorem zzf (a b : Pt) (h : k3 a = k3 b) : a = b := by
  unfold k3 at h
  simp only [List.cons.injEq, and_true] at h
  exact Prod.ext h.1 (Prod.ext h.2.1 h.2.2)
theorem z4d {wi : DTI} {g : DTG} {te : DTE} {own : List Nat} {η : DSt} {Q : DVK} {α β : Type} {f : α → D} {G0 : DHp} {a : Addr} {ns : List Int} {c : Int} (h : β → D) (Pr : α → β → Prop) (Ok : List α → Prop) (hl : ∀ xs, Ok xs → xs.length ≤ 1000000)
    (hw : ∀ R, (∀ xs c1, Ok xs → R (xs.map f) zco (Gw G0 a ns c1)) → wi η (Gw G0 a ns c) R)
    (hb : ∀ xs, Ok xs → ∀ x ∈ xs, ∀ (G1 : DHp) (c1 : Int) (A : DVK), (∀ y c2, Pr x y → A (h y) (Gw G1 a ns c2)) → g (f x) (zks η own) (Gw G1 a ns c1) fun η2 G2 => te η2 G2 A)
    (q : ∀ xs, Ok xs → ∀ ys : List β, ys.length = xs.length → (∀ y ∈ ys, ∃ x ∈ xs, Pr x y) → ∀ c' p, Gw G0 a ns c' p = none → Q (.ref p) (up (Gw G0 a ns c') p (.lst (ys.map h)))) : dLc wi g dYes te own η (Gw G0 a ns c) Q := by
  refine hw _ fun xs c0 okx => ?_
  intro p hp
  have hl := hl xs okx
  obtain ⟨e, hap⟩ := zxo (o := .lst []) hp
  refine ⟨fun i acc G' => ∃ (ys : List β) (c' : Int), ys.length = i ∧ i ≤ xs.length ∧ (∀ y ∈ ys, ∃ x ∈ xs, Pr x y) ∧ acc = ys.map h ∧ G' = Gw (up G0 p (.lst acc)) a ns c', ⟨[], c0, rfl, Nat.zero_le _, (by simp), rfl, e⟩, ?_, ?_, ?_⟩
  · rintro i acc G' ⟨ys, c', hi, hle, hs, rfl, rfl⟩
    exact ⟨trivial, zmi hap⟩
  · rintro i d acc G' hd ⟨ys, c', hi, hle, hs, rfl, rfl⟩
    obtain ⟨x, hx, rfl⟩ := zhp hd
    have hlt := (List.getElem?_eq_some_iff.mp hx).1
    refine hb xs okx x (List.mem_of_getElem? hx) (up G0 p (.lst (ys.map h))) c' _ (fun y c2 pr => ⟨zes ?_, zmi hap, ys ++ [y], c2, by rw [List.length_append, List.length_singleton, hi], hlt, ?_, by rw [List.map_append]; rfl, zxd hap⟩)
    · rw [List.length_map]
      omega
    · intro z hz
      rcases List.mem_append.mp hz with hz | hz
      · exact hs z hz
      · rw [List.mem_singleton] at hz; subst hz; exact ⟨x, List.mem_of_getElem? hx, pr⟩
  · rintro acc G' ⟨ys, c', hi, hle, hs, rfl, rfl⟩
    have hn : Gw G0 a ns c' p = none := by
      have := zv0 hap hp
      show up G0 a _ p = none
      rw [zvr (Ne.symm hap)]
      exact this
    have e2 : Gw (up G0 p (.lst (ys.map h))) a ns c' = up (Gw G0 a ns c') p (.lst (ys.map h)) := by
      show up (up G0 p _) a _ = up (up G0 a _) p _
      exact zvj (Ne.symm hap)
    rw [e2]
    rw [List.length_map] at hi
    exact q xs okx ys hi hs c' p hn
end M
namespace M
open PySem PySem.Spec PyProof.Rows L2 DL
variable [CA]
def zla : D → D → Bool → Prop := fun d e b => ∃ cs cs' : List Pt, d = gD cs ∧ e = gD cs' ∧ b = decide (cs = cs')
theorem zq7 {d e : D} {b : Bool} {G : DHp} {Q : DVK} (p : zla d e b) (q : Q (.bl b) G) : zai [d, e] G Q := by
  obtain ⟨cs, cs', rfl, rfl, rfl⟩ := p
  exact ⟨cs, cs', rfl, rfl, q⟩
theorem zpk {d e : D} {b : Bool} (p : zla d e b) : ∃ fs ds gs es, d = .nd (.ins CA.Ground fs) ds ∧ e = .nd (.ins CA.Ground gs) es := by
  obtain ⟨cs, cs', rfl, rfl, _⟩ := p
  exact ⟨_, _, _, _, rfl, rfl⟩
def camT (c : Cam) : D := .nd .tup [.int c.w, .int c.h, .int c.er, .int c.fa, .int c.lo]
def za2 : DRn := fun ds G Q => ∃ c : Cam, ds = [cD c] ∧ Q (camT c) G
abbrev zg1 : List Str := ["self"]
def zje : DTS :=
    (dRet (dTup (zi (dFld CA.Camera "width" (zk 0)) (zi (dFld CA.Camera "height" (zk 0)) (zi (dFld CA.Camera "error" (zk 0)) (zi (dFld CA.Camera "false" (zk 0)) (zi (dFld CA.Camera "lost" (zk 0)) dNil)))))))
theorem zqf : ∀ ds G Q, za2 ds G Q → ds.length = 1 := fun ds G Q ⟨_, e, _⟩ => by rw [e]; rfl
theorem zp5 : ∀ ds G Q, za2 ds G Q → zje { nx := fun _ G' => Q .non G', rt := Q } (za4 zg1 ds) G := fun ds G Q h => by
  obtain ⟨c, rfl, q⟩ := h
  simp_arith only [zje, zg1, dFld, zwl, zs5, zwc, zwo, zyx]
  exact q
theorem zk4 (c : Cam) : zba (camT c) = true := rfl
theorem zlc (c : Cam) : (py (camT c)).depth ≤ 60 := by
  have : (py (camT c)).depth ≤ 1 := by simp [camT, py, pys, PyData.depth, PyData.depthAll]
  omega
theorem zso {c : Cam} {m : Str} {G : DHp} (h : (["width", "height", "error", "false", "lost"] : List Str).contains m = false) : insD CA.Camera m (cD c) G := ⟨rfl, h⟩
def zv6 : D → Prop := fun d => ∃ c, d = cD c
def zo4 : D → D → Bool → Prop := fun d e b => zv6 d ∧ d = e ∧ b = true
def zbt : DRn := d2 fun a b G Q => zv6 a ∧ a = b ∧ Q (.bl true) G
abbrev zfq : List Str := ["self", "other"]
def zhu : DTS :=
    (dRet (zhq (dCB (dIsi isT) (zi (zk 1) (zi (dC (.ref CA.Camera)) dNil))) (dOp dEq (zlv CA.Camera "told" za2 (zk 0) dNil) (zlv CA.Camera "told" za2 (zk 1) dNil))))
theorem zn2 : ∀ ds G Q, zbt ds G Q → ds.length = 2 := fun ds G Q h => by
  match ds, h with
  | [_, _], _ => rfl
theorem zn0 : ∀ ds G Q, zbt ds G Q → zhu { nx := fun _ G' => Q .non G', rt := Q } (za4 zfq ds) G := fun ds G Q h => by
  match ds, h with
  | [_, _], ⟨⟨c, rfl⟩, rfl, q⟩ =>
    simp_arith only [zhu, zfq]
    refine zkp (by simp) ?_
    simp_arith only [zlv]
    refine ⟨zso (by decide +kernel), ?_⟩
    refine ⟨c, rfl, ?_⟩
    refine ⟨zso (by decide +kernel), ?_⟩
    refine ⟨c, rfl, ?_⟩
    exact zrf (zk4 c) (zk4 c) (Nat.le_trans (zlc c) (by decide)) (Nat.le_trans (zlc c) (by decide)) true ⟨fun _ => rfl, fun _ => rfl⟩ q
theorem zxa {d e : D} {b : Bool} {G : DHp} {Q : DVK} (p : zo4 d e b) (q : Q (.bl b) G) : zbt [d, e] G Q := by
  obtain ⟨p, rfl, rfl⟩ := p
  exact ⟨p, rfl, q⟩
theorem zuq {d e : D} {b : Bool} (p : zo4 d e b) : ∃ fs ds gs es, d = .nd (.ins CA.Camera fs) ds ∧ e = .nd (.ins CA.Camera gs) es := by
  obtain ⟨⟨c, rfl⟩, rfl, _⟩ := p
  exact ⟨_, _, _, _, rfl, rfl⟩
def zql : D → Prop := fun d => ∃ s, d = sD s ∧ s.cs.length ≤ 100 ∧ s.tu.length ≤ 100
def zbk : DRn := d2 fun a b G Q => zql a ∧ a = b ∧ Q (.bl true) G
abbrev zif : List Str := ["self", "other"]
def zkx : DTS :=
    (dSeq (dIfS (dOr (dNot (zay (dCB (dIsi isT) (zi (zk 1) (zi (dC (.ref CA.Sky)) dNil))))) (zay (dOp dNe (dFld CA.Ground "craters" (dFld CA.Sky "ground" (zk 0))) (dFld CA.Ground "craters" (dFld CA.Sky "ground" (zk 1))))))
    (dRet (dC (.bl false)))
    zdd)
    (dRet (dOp dEq (dTup (zi (zlv CA.Camera "told" za2 (dFld CA.Sky "camera" (zk 0)) dNil) (zi (dFld CA.Sky "turns" (zk 0)) (zi (dFld CA.Sky "area" (zk 0)) dNil)))) (dTup (zi (zlv CA.Camera "told" za2 (dFld CA.Sky "camera" (zk 1)) dNil) (zi (dFld CA.Sky "turns" (zk 1)) (zi (dFld CA.Sky "area" (zk 1)) dNil)))))))
theorem zqs : ∀ ds G Q, zbk ds G Q → ds.length = 2 := fun ds G Q h => by
  match ds, h with
  | [_, _], _ => rfl
def skT (s : Sk) : D := .nd .tup [camT s.cam, eT .int s.tu, e4 s.ar]
theorem zk2 (xs : List Int) : zba (eT .int xs) = true := zg2 (f := .int) (fun _ => rfl) xs
theorem zk8 (xs : List Int) : (py (eT .int xs)).depth ≤ 1 := zgg (B := 0) (f := .int) (fun a => by rw [zem]; exact Nat.le_refl _) xs
theorem ztd (s : Sk) : zba (skT s) = true := by
  have h1 := zk4 s.cam
  have h2 := zk2 s.tu
  have h3 := zk2 [s.ar.1, s.ar.2.1, s.ar.2.2.1, s.ar.2.2.2]
  show cleans [camT s.cam, eT .int s.tu, e4 s.ar] = true
  rw [cleans, cleans, cleans, cleans, h1, h2]
  have : zba (e4 s.ar) = true := h3
  rw [this]
  rfl
theorem zt7 (s : Sk) : (py (skT s)).depth ≤ 64 := by
  have h1 := zlc s.cam
  have h2 := zk8 s.tu
  have h3 : (py (e4 s.ar)).depth ≤ 1 := zk8 [s.ar.1, s.ar.2.1, s.ar.2.2.1, s.ar.2.2.2]
  unfold skT
  rw [py, pys, pys, pys, pys, PyData.depth, PyData.depthAll, PyData.depthAll, PyData.depthAll, PyData.depthAll]
  omega
theorem zqj : ∀ ds G Q, zbk ds G Q → zkx { nx := fun _ G' => Q .non G', rt := Q } (za4 zif ds) G := fun ds G Q h => by
  match ds, h with
  | [_, _], ⟨⟨s, rfl, h1, h2⟩, rfl, q⟩ =>
    simp_arith only [zkx, zif]
    refine zkp (by simp) ?_
    simp_arith only [dFld, zqd, zni, zpa, zle, zl3, zlv]
    refine zwm (zg2 (f := e3) zjp s.cs) (zg2 (f := e3) zjp s.cs) (Nat.le_trans (zgg (B := 1) (f := e3) zjj s.cs) (by decide)) (Nat.le_trans (zgg (B := 1) (f := e3) zjj s.cs) (by decide)) false ⟨fun z => (by cases z), fun z => absurd rfl z⟩ ?_
    simp_arith only [true_and]
    refine ⟨zso (by decide +kernel), ?_⟩
    refine ⟨s.cam, rfl, ?_⟩
    simp_arith only [zle, zl3, zpa]
    refine ⟨zso (by decide +kernel), ?_⟩
    refine ⟨s.cam, rfl, ?_⟩
    simp_arith only [zle, zl3]
    exact zrf (d := skT s) (e := skT s) (ztd s) (ztd s) (zt7 s) (zt7 s) true ⟨fun _ => rfl, fun _ => rfl⟩ q
theorem zyq {d : D} {G : DHp} {Q : DVK} (p : zql d) (q : Q (.bl true) G) : zbk [d, d] G Q := ⟨p, rfl, q⟩
theorem zv8 {d : D} (p : zql d) : ∃ fs ds, d = .nd (.ins CA.Sky fs) ds := by
  obtain ⟨s, rfl, _⟩ := p
  exact ⟨_, _, rfl⟩
def ddT (d : Dd) : D := .nd .tup [.str d.kind, .int d.fuel, d.aim, eT e2 d.sl]
def zdy : DRn := fun ds G Q => ∃ d : Dd, ds = [ddD d] ∧ Q (ddT d) G
abbrev zjm : List Str := ["self"]
def zl4 : DTS :=
    (dRet (dTup (zi (dFld CA.Deed "kind" (zk 0)) (zi (dFld CA.Deed "fuel" (zk 0)) (zi (dFld CA.Deed "aim" (zk 0)) (zi (dFld CA.Deed "slips" (zk 0)) dNil))))))
theorem zsl : ∀ ds G Q, zdy ds G Q → ds.length = 1 := fun ds G Q ⟨_, e, _⟩ => by rw [e]; rfl
theorem zsn : ∀ ds G Q, zdy ds G Q → zl4 { nx := fun _ G' => Q .non G', rt := Q } (za4 zjm ds) G := fun ds G Q h => by
  obtain ⟨d, rfl, q⟩ := h
  simp_arith only [zl4, zjm, dFld, zvg, zyh, zx8, zwi]
  exact q
theorem z07 {d : Dd} {m : Str} {G : DHp} (h : (["kind", "fuel", "aim", "slips"] : List Str).contains m = false) : insD CA.Deed m (ddD d) G := ⟨rfl, h⟩
def zli : D → Prop := fun d => ∃ a : Dd, d = ddD a
/-- two deeds that differ in fuel at most -/
structure z1b (a b : Dd) : Prop where
  kind : a.kind = b.kind
  aim : a.aim = b.aim
  sl : a.sl = b.sl
def zpe : D → D → Bool → Prop := fun d e b => ∃ a a' : Dd, d = ddD a ∧ e = ddD a' ∧ z1b a a' ∧ b = decide (a.fuel = a'.fuel)
def zas : DRn := d2 fun d e G Q => ∃ b, zpe d e b ∧ Q (.bl b) G
abbrev zg6 : List Str := ["self", "other"]
def zjf : DTS :=
    (dRet (zhq (dCB (dIsi isT) (zi (zk 1) (zi (dC (.ref CA.Deed)) dNil))) (dOp (zuz (fun _ => False) 2 false) (zlv CA.Deed "told" zdy (zk 0) dNil) (zlv CA.Deed "told" zdy (zk 1) dNil))))
theorem zp0 : ∀ ds G Q, zas ds G Q → ds.length = 2 := fun ds G Q h => by
  match ds, h with
  | [_, _], _ => rfl
theorem zwh {P : D → Prop} {n : Nat} (i : Int) : SmT P n (.int i) := by
  induction n with
  | zero => exact .inr (.inl ⟨i, rfl⟩)
  | succ n ih => exact .inl ih
theorem z33 {P : D → Prop} {n : Nat} (i : Str) : SmT P n (.str i) := by
  induction n with
  | zero => exact .inr (.inr ⟨i, rfl⟩)
  | succ n ih => exact .inl ih
theorem z2s {P : D → Prop} {n : Nat} (p : Int × Int) : SmT P (n + 1) (e2 p) := .inr (.inl ⟨_, rfl, fun e he => by
  simp only [List.mem_cons, List.not_mem_nil, or_false] at he
  rcases he with rfl | rfl
  · exact zwh _
  · exact zwh _⟩)
theorem z4r {P : D → Prop} (d : Dd) : SmT P 2 d.aim := by
  cases d with
  | step f a s => exact z2s (n := 1) a
  | turn f a => exact zwh a
  | look f a => exact zwh a
  | land f s => exact .inl (.inl (.inl rfl))
  | away f => exact .inl (.inl (.inl rfl))
theorem z41 {P : D → Prop} (xs : List (Int × Int)) : SmT P 2 (eT e2 xs) := .inr (.inl ⟨_, rfl, fun e he => by
  obtain ⟨p, _, rfl⟩ := List.mem_map.mp he
  exact z2s (n := 0) p⟩)
theorem zpf : ∀ ds G Q, zas ds G Q → zjf { nx := fun _ G' => Q .non G', rt := Q } (za4 zg6 ds) G := fun ds G Q h => by
  match ds, h with
  | [_, _], ⟨b, ⟨a, a', rfl, rfl, sm, eb⟩, q⟩ =>
    subst eb
    simp_arith only [zjf, zg6]
    refine zkp (by simp) ?_
    simp_arith only [zlv]
    refine ⟨z07 (by decide +kernel), ?_⟩
    refine ⟨a, rfl, ?_⟩
    refine ⟨z07 (by decide +kernel), ?_⟩
    refine ⟨a', rfl, ?_⟩
    refine ⟨_, _, _, rfl, rfl, by rw [← sm.kind, ← sm.aim, ← sm.sl]; exact .same (z33 _) (.int (.same (z4r a) (.same (z41 _) .nil))), ?_⟩
    rw [Bool.and_true, Bool.false_bne]
    exact q
theorem zwv {d e : D} {b : Bool} {G : DHp} {Q : DVK} (p : zpe d e b) (q : Q (.bl b) G) : zas [d, e] G Q := ⟨b, p, q⟩
theorem zt2 {d e : D} {b : Bool} (p : zpe d e b) : ∃ fs ds gs es, d = .nd (.ins CA.Deed fs) ds ∧ e = .nd (.ins CA.Deed gs) es := by
  obtain ⟨a, a', rfl, rfl, _⟩ := p
  exact ⟨_, _, _, _, rfl, rfl⟩
theorem zwx {d : D} {G : DHp} {Q : DVK} (p : zli d) (q : Q (.bl true) G) : zas [d, d] G Q := by
  obtain ⟨a, rfl⟩ := p
  exact ⟨true, ⟨a, a, rfl, rfl, ⟨rfl, rfl, rfl⟩, (decide_eq_true rfl).symm⟩, q⟩
theorem ztl {d : D} (p : zli d) : ∃ fs ds, d = .nd (.ins CA.Deed fs) ds := by
  obtain ⟨a, rfl⟩ := p
  exact ⟨_, _, rfl⟩
def crT (c : Cr) : D := .nd .tup [c.skies, e2 c.foot, .int c.room, eT ddD c.deeds]
def zde : DRn := fun ds G Q => ∃ c : Cr, ds = [crD c] ∧ Q (crT c) G
abbrev zh4 : List Str := ["self"]
def zkz : DTS :=
    (dRet (dTup (zi (dFld CA.Craft "skies" (zk 0)) (zi (dFld CA.Craft "foot" (zk 0)) (zi (dFld CA.Craft "room" (zk 0)) (zi (dFld CA.Craft "deeds" (zk 0)) dNil))))))
theorem zqr : ∀ ds G Q, zde ds G Q → ds.length = 1 := fun ds G Q ⟨_, e, _⟩ => by rw [e]; rfl
theorem zqi : ∀ ds G Q, zde ds G Q → zkz { nx := fun _ G' => Q .non G', rt := Q } (za4 zh4 ds) G := fun ds G Q h => by
  obtain ⟨c, rfl, q⟩ := h
  simp_arith only [zkz, zh4, dFld, zwz, zy3, zyr, zsq]
  exact q
theorem zyb {c : Cr} {m : Str} {G : DHp} (h : (["skies", "foot", "room", "deeds"] : List Str).contains m = false) : insD CA.Craft m (crD c) G := ⟨rfl, h⟩
/-- two crafts that differ in room at most -/
def zl7 : D → D → Bool → Prop := fun d e b => ∃ c c' : Cr, d = crD c ∧ e = crD c' ∧ c.skies = c'.skies ∧ c.foot = c'.foot ∧ c.deeds = c'.deeds ∧ c.cs.length ≤ 100 ∧ c.tu.length ≤ 100 ∧ b = decide (c.room = c'.room)
def zbl : DRn := d2 fun d e G Q => ∃ b, zl7 d e b ∧ Q (.bl b) G
abbrev zgh : List Str := ["self", "other"]
def zil : DTS :=
    (dRet (zhq (dCB (dIsi isT) (zi (zk 1) (zi (dC (.ref CA.Craft)) dNil))) (dOp (zuz (fun d => zql d ∨ zli d) 2 false) (zlv CA.Craft "told" zde (zk 0) dNil) (zlv CA.Craft "told" zde (zk 1) dNil))))
theorem zok : ∀ ds G Q, zbl ds G Q → ds.length = 2 := fun ds G Q h => by
  match ds, h with
  | [_, _], _ => rfl
theorem z0m {P : D → Prop} (hP : ∀ d, zql d → P d) (c : Cr) (h1 : c.cs.length ≤ 100) (h2 : c.tu.length ≤ 100) : SmT P 2 c.skies := .inr (.inl ⟨_, rfl, fun e he => by
  obtain ⟨cam, _, rfl⟩ := List.mem_map.mp he
  exact .inr (.inr (hP _ ⟨_, rfl, h1, h2⟩))⟩)
theorem z0s {P : D → Prop} (hP : ∀ d, zli d → P d) (ds : List Dd) : SmT P 2 (eT ddD ds) := .inr (.inl ⟨_, rfl, fun e he => by
  obtain ⟨d, _, rfl⟩ := List.mem_map.mp he
  exact .inr (.inr (hP _ ⟨_, rfl⟩))⟩)
theorem zoz : ∀ ds G Q, zbl ds G Q → zil { nx := fun _ G' => Q .non G', rt := Q } (za4 zgh ds) G := fun ds G Q h => by
  match ds, h with
  | [_, _], ⟨b, ⟨c, c', rfl, rfl, e1, e2', e3', h1, h2, eb⟩, q⟩ =>
    subst eb
    simp_arith only [zil, zgh]
    refine zkp (by simp) ?_
    simp_arith only [zlv]
    refine ⟨zyb (by decide +kernel), ?_⟩
    refine ⟨c, rfl, ?_⟩
    refine ⟨zyb (by decide +kernel), ?_⟩
    refine ⟨c', rfl, ?_⟩
    refine ⟨_, _, _, rfl, rfl, by rw [← e1, ← e2', ← e3']; exact .same (z0m (fun _ => .inl) c h1 h2) (.same (z2s (n := 1) c.foot) (.int (.same (z0s (fun _ => .inr) c.deeds) .nil))), ?_⟩
    rw [Bool.and_true, Bool.false_bne]
    exact q
theorem zth {d e : D} {b : Bool} {G : DHp} {Q : DVK} (p : zl7 d e b) (q : Q (.bl b) G) : zbl [d, e] G Q := ⟨b, p, q⟩
theorem zq9 {d e : D} {b : Bool} (p : zl7 d e b) : ∃ fs ds gs es, d = .nd (.ins CA.Craft fs) ds ∧ e = .nd (.ins CA.Craft gs) es := by
  obtain ⟨a, a', rfl, rfl, _⟩ := p
  exact ⟨_, _, _, _, rfl, rfl⟩
end M
namespace M
open PySem PySem.Spec PyProof.Rows L2 DL
variable [CA]
theorem z1a (a b : Int × Int) : PySem.W.dataLe false py (e2 a) (e2 b) = decide (k2 a ≤ k2 b) := by
  rw [z2o, z2o]
  exact z1o _ _
structure SlP (sl s : List (Int × Int)) : Prop where
  srt : srtT e2 sl = s
  pw : s.Pairwise lt2
  mem : ∀ p, p ∈ s ↔ p ∈ sl
  sh : ∀ p ∈ s, okSh p
  ne : s ≠ []
  few : sl.length ≤ 3 ∧ s.length ≤ 3
theorem zxr {sl s : List (Int × Int)} (p : sl.Perm s) (pw : s.Pairwise lt2) (sh : ∀ p ∈ s, okSh p) (ne : s ≠ []) (few : sl.length ≤ 3) : SlP sl s :=
  ⟨(zsg z1a zy4 p).trans (zzb z1a (pw.imp fun {a b} h => List.le_of_lt h)), pw, fun x => p.mem_iff.symm, sh, ne, few, by rw [← p.length_eq]; exact few⟩
theorem zo2 : SlP [(0, 0)] [(0, 0)] := zxr (List.Perm.refl _) (List.pairwise_singleton _ _) (fun p hp => by rw [List.mem_singleton.mp hp]; unfold okSh; decide) (by simp) (by decide)
/-- the slips that are drawn -/
def slL : List (List (Int × Int)) := [[(0, 0)], [(1, 0), (0, 0)], [(0, -1), (0, 0), (0, 1)]]
theorem ztr {sl : List (Int × Int)} (h : sl ∈ slL) : ∃ s, SlP sl s := by
  unfold slL at h
  simp only [List.mem_cons, List.not_mem_nil, or_false] at h
  rcases h with rfl | rfl | rfl
  · exact ⟨_, zo2⟩
  · refine ⟨[(0, 0), (1, 0)], zxr (List.Perm.swap _ _ _) (by unfold lt2; decide) (fun p hp => ?_) (by simp) (by decide)⟩
    simp only [List.mem_cons, List.not_mem_nil, or_false] at hp
    rcases hp with rfl | rfl <;> (unfold okSh; decide)
  · refine ⟨[(0, -1), (0, 0), (0, 1)], zxr (List.Perm.refl _) (by unfold lt2; decide) (fun p hp => ?_) (by simp) (by decide)⟩
    simp only [List.mem_cons, List.not_mem_nil, or_false] at hp
    rcases hp with rfl | rfl | rfl <;> (unfold okSh; decide)
def rawD (r : Dd × List (Int × Int)) : D := .nd .tup [.str r.1.kind, .int r.1.fuel, r.1.aim, eT e2 r.2]
structure RawP (d : Dd) (sl : List (Int × Int)) : Prop where
  slp : SlP sl d.sl
  fu : 1 ≤ d.fuel ∧ d.fuel ≤ 9
  aim : d.okAim
  calm : d.calm → sl = [(0, 0)]
  look : ∀ f a, d = .look f a → a = 0
theorem RawP.mk4 {d : Dd} {sl : List (Int × Int)} (r : RawP d sl) : Mk4 d sl := ⟨⟨⟨r.fu.1, by have := r.fu.2; omega⟩, r.aim, r.slp.ne, r.slp.sh, r.slp.pw, by have := r.slp.few.2; omega⟩, r.slp.mem, by have := r.slp.few.1; omega, r.calm⟩
/-- the same deed, one unit of fuel more -/
def Dd.up : Dd → Dd
  | .step f a s => .step (f + 1) a s
  | .turn f a => .turn (f + 1) a
  | .look f a => .look (f + 1) a
  | .land f s => .land (f + 1) s
  | .away f => .away (f + 1)
theorem z4e (d : Dd) : z1b d d.up ∧ d.up.fuel = d.fuel + 1 := by
  cases d <;> exact ⟨⟨rfl, rfl, rfl⟩, rfl⟩
theorem RawP.mk4up {d : Dd} {sl : List (Int × Int)} (r : RawP d sl) : Mk4 d.up sl := by
  obtain ⟨sm, ef⟩ := z4e d
  refine ⟨⟨⟨by rw [ef]; have := r.fu.1; omega, by rw [ef]; have := r.fu.2; omega⟩, ?_, by rw [← sm.sl]; exact r.slp.ne, by rw [← sm.sl]; exact r.slp.sh, by rw [← sm.sl]; exact r.slp.pw, by rw [← sm.sl]; have := r.slp.few.2; omega⟩, by rw [← sm.sl]; exact r.slp.mem, by have := r.slp.few.1; omega, fun h => r.calm ?_⟩
  · have := r.aim
    cases d <;> exact this
  · cases d <;> exact h
def zel : DRn := fun ds G Q => ∃ (d : Dd) (sl : List (Int × Int)), ds = [rawD (d, sl)] ∧ RawP d sl ∧ Q (ddD d) G
abbrev zej : List Str := ["raw", "kind", "fuel", "aim", "slips"]
def ze6 : DTS :=
    (dSeq (dAsg (zk 0) (zkw (zc1 (zab 1) (zc1 (zab 2) (zc1 (zab 3) (zc1 (zab 4) zkl)))) 4))
    (dSeq (dIfS (zay (dOp dEq (zk 1) (dC (.str "step"))))
    (dRet (dCB zl8 (zi (zk 2) (zi (zk 3) (zi (zk 4) dNil)))))
    zdd)
    (dSeq (dIfS (zay (dOp dEq (zk 1) (dC (.str "turn"))))
    (dRet (dCB zlo (zi (zk 2) (zi (zk 3) dNil))))
    zdd)
    (dSeq (dIfS (zay (dOp dEq (zk 1) (dC (.str "look"))))
    (dRet (dCB zl2 (zi (zk 2) (zi (zk 3) dNil))))
    zdd)
    (dRet (dIf (zay (dOp dEq (zk 1) (dC (.str "land")))) (dCB zln (zi (zk 2) (zi (zk 4) dNil))) (dCB zly (zi (zk 2) dNil))))))))
theorem zr2 : ∀ ds G Q, zel ds G Q → ds.length = 1 := fun ds G Q ⟨_, _, e, _⟩ => by rw [e]; rfl
theorem zsc : ∀ ds G Q, zel ds G Q → ze6 { nx := fun _ G' => Q .non G', rt := Q } (za4 zej ds) G := fun ds G Q h => by
  obtain ⟨d, sl, rfl, r, q⟩ := h
  have m := r.mk4
  cases d with
  | step f a s =>
    simp_arith only [ze6, zej, rawD]
    refine zak zbv zbv true (show (("step" : Str) == "step") = true by decide +kernel) ?_
    simp_arith only [true_and]
    exact ⟨f, a, s, sl, rfl, m, q⟩
  | turn f a =>
    have e := r.calm trivial
    subst e
    simp_arith only [ze6, zej, rawD]
    refine zak zc2 zbv false (show (("turn" : Str) == "step") = false by decide +kernel) ?_
    simp_arith only [true_and]
    refine zak zc2 zc2 true (show (("turn" : Str) == "turn") = true by decide +kernel) ?_
    simp_arith only [true_and]
    exact ⟨f, a, rfl, m, q⟩
  | look f a =>
    have e := r.calm trivial
    subst e
    simp_arith only [ze6, zej, rawD]
    refine zak zbw zbv false (show (("look" : Str) == "step") = false by decide +kernel) ?_
    simp_arith only [true_and]
    refine zak zbw zc2 false (show (("look" : Str) == "turn") = false by decide +kernel) ?_
    simp_arith only [true_and]
    refine zak zbw zbw true (show (("look" : Str) == "look") = true by decide +kernel) ?_
    simp_arith only [true_and]
    exact ⟨f, a, rfl, m, q⟩
  | land f s =>
    simp_arith only [ze6, zej, rawD]
    refine zak zdl zbv false (show (("land" : Str) == "step") = false by decide +kernel) ?_
    simp_arith only [true_and]
    refine zak zdl zc2 false (show (("land" : Str) == "turn") = false by decide +kernel) ?_
    simp_arith only [true_and]
    refine zak zdl zbw false (show (("land" : Str) == "look") = false by decide +kernel) ?_
    simp_arith only [true_and]
    refine zak zdl zdl true (show (("land" : Str) == "land") = true by decide +kernel) ?_
    simp_arith only [true_and]
    exact ⟨f, s, sl, rfl, m, q⟩
  | away f =>
    have e := r.calm trivial
    subst e
    simp_arith only [ze6, zej, rawD]
    refine zak zff zbv false (show (("away" : Str) == "step") = false by decide +kernel) ?_
    simp_arith only [true_and]
    refine zak zff zc2 false (show (("away" : Str) == "turn") = false by decide +kernel) ?_
    simp_arith only [true_and]
    refine zak zff zbw false (show (("away" : Str) == "look") = false by decide +kernel) ?_
    simp_arith only [true_and]
    refine zak zff zdl false (show (("away" : Str) == "land") = false by decide +kernel) ?_
    simp_arith only [true_and]
    exact ⟨f, rfl, m, q⟩
def ze7 : DRn := fun ds G Q => ∃ (a : Addr) (ns : List Int) (c : Int) (G0 : DHp), ds = [.ref a] ∧ G = Gw G0 a ns c ∧ ns.length ≤ 63 ∧ ∀ (rws : List (Dd × List (Int × Int))) c', rws.length ≤ 5 → (∀ r ∈ rws, RawP r.1 r.2) → Q (.nd .lst (rws.map rawD)) (Gw G0 a ns c')
abbrev zk5 : List Str := ["draw", "slips", "found", "lap", "kind", "fuel", "aim"]
def znn : DTS :=
    (dSeq (dAsg (zlh (zi (dTup (zi (dTup (zi (dC (.int 0)) (zi (dC (.int 0)) dNil))) dNil)) (zi (dTup (zi (dTup (zi (dC (.int 1)) (zi (dC (.int 0)) dNil))) (zi (dTup (zi (dC (.int 0)) (zi (dC (.int 0)) dNil))) dNil))) (zi (dTup (zi (dTup (zi (dC (.int 0)) (zi (dNeg (dC (.int 1))) dNil))) (zi (dTup (zi (dC (.int 0)) (zi (dC (.int 0)) dNil))) (zi (dTup (zi (dC (.int 0)) (zi (dC (.int 1)) dNil))) dNil)))) dNil)))) (zab 1))
    (dSeq (dAsg (zne dNil) (zab 2))
    (dSeq (dFor (zk6 (zi (dOp dAdd (dC (.int 1)) (dCB zp (zi (zk 0) (zi (dC (.int 5)) dNil)))) dNil)) (zab 3)
    (dSeq (dPar 4 5 (zi (dCB zb4 (zi (zk 0) (zi (zlh (zi (dC (.str "step")) (zi (dC (.str "turn")) (zi (dC (.str "look")) (zi (dC (.str "land")) (zi (dC (.str "away")) dNil)))))) dNil))) (zi (dOp dAdd (dC (.int 1)) (dCB zp (zi (zk 0) (zi (dC (.int 9)) dNil)))) dNil)))
    (dSeq (dAsg (dIf (zay (dOp dEq (zk 4) (dC (.str "step")))) (dTup (zi (dOp dSub (dCB zp (zi (zk 0) (zi (dC (.int 5)) dNil))) (dC (.int 2))) (zi (dOp dSub (dCB zp (zi (zk 0) (zi (dC (.int 5)) dNil))) (dC (.int 2))) dNil))) (dIf (zay (dOp dEq (zk 4) (dC (.str "turn")))) (dOp dAdd (dC (.int 1)) (dCB zp (zi (zk 0) (zi (dC (.int 3)) dNil)))) (dIf (zay (dOp dEq (zk 4) (dC (.str "look")))) (dC (.int 0)) (dC .non)))) (zab 6))
    (zov (dM "list" zro (zk 2) (zi (dTup (zi (zk 4) (zi (zk 5) (zi (zk 6) (zi (dIf (zay (dOp (dIn false) (zk 4) (dTup (zi (dC (.str "step")) (zi (dC (.str "land")) dNil))))) (dCB zb4 (zi (zk 0) (zi (zk 1) dNil))) (dTup (zi (dTup (zi (dC (.int 0)) (zi (dC (.int 0)) dNil))) dNil))) dNil))))) dNil))))))
    (dFrz 2 (zp7 (zk 2))))))
theorem zuk : ∀ ds G Q, ze7 ds G Q → ds.length = 1 := fun ds G Q ⟨_, _, _, _, e, _⟩ => by rw [e]; rfl
theorem zs9 : ∀ ds G Q, ze7 ds G Q → znn { nx := fun _ G' => Q .non G', rt := Q } (za4 zk5 ds) G := fun ds G Q h => by
  obtain ⟨a, ns, c, G0, rfl, rfl, hl, q⟩ := h
  simp_arith only [znn, zk5]
  intro p hp
  obtain ⟨e1, hap⟩ := zxo (o := .lst []) hp
  have hp0 := zv0 hap hp
  rw [e1]
  simp_arith only [dFor, zk6]
  refine zb6 (by decide) hl fun n n0 n1 => ?_
  simp_arith only [true_and]
  refine ⟨⟨by omega, by omega⟩, ?_⟩
  have e0 : (D.nd .lst [D.nd .tup [e2 (0, 0)], .nd .tup [e2 (1, 0), e2 (0, 0)], .nd .tup [e2 (0, -1), e2 (0, 0), e2 (0, 1)]]) = .nd .lst (slL.map (eT e2)) := rfl
  refine ⟨fun i η G' => ∃ rws c' x3 x4 x5 x6, η = [some (.ref a), some (.nd .lst (slL.map (eT e2))), some (.ref p), x3, x4, x5, x6] ∧ G' = Gw (up G0 p (.lst (rws.map rawD))) a ns c' ∧ rws.length = i ∧ ∀ r ∈ rws, RawP r.1 r.2, ⟨[], c + 1, none, none, none, none, rfl, rfl, rfl, fun r hr => by cases hr⟩, fun _ _ _ _ => trivial, ?_, ?_⟩
  · rintro i d η G' hd ⟨rws, c', x3, x4, x5, x6, rfl, rfl, hi, hr⟩
    obtain ⟨t, ht, rfl⟩ := zhp hd
    have hi' := (List.getElem?_eq_some_iff.mp ht).1
    rw [zhk] at hi'
    have app : ∀ d sl, RawP d sl → ∀ r ∈ rws ++ [(d, sl)], RawP r.1 r.2 := fun d sl h r hm => (List.mem_append.mp hm).elim (hr r) fun e => by rw [List.mem_singleton.mp e]; exact h
    simp_arith only [true_and]
    refine ⟨a, ns, c', _, _, _, rfl, rfl, hl, .inl rfl, by decide, fun kd hkd => ?_⟩
    simp only [List.mem_cons, List.not_mem_nil, or_false] at hkd
    rcases hkd with rfl | rfl | rfl | rfl | rfl
    · skip
      refine zb6 (by decide) hl fun f f0 f1 => ?_
      simp_arith only [true_and]
      refine zak zbv zbv true (show (("step" : Str) == "step") = true by decide +kernel) ?_
      simp_arith only [true_and]
      refine zb6 (by decide) hl fun x x0 x1 => ?_
      simp_arith only [true_and]
      refine zb6 (by decide) hl fun y y0 y1 => ?_
      simp_arith only [true_and]
      refine ⟨by simp only [tyD, zmi hap], ?_⟩
      refine zpu zbv zbv zdl true (by decide +kernel) ?_
      simp_arith only [true_and]
      refine ⟨a, ns, _, _, _, slL.map (eT e2), rfl, rfl, hl, .inl rfl, by decide, fun sld hs => ?_⟩
      obtain ⟨sl, hsl, rfl⟩ := List.mem_map.mp hs
      obtain ⟨s, sp⟩ := ztr hsl
      refine (znm (y := rawD (.step (1 + f) (x - 2, y - 2) s, sl)) (zmi hap) (zes (by rw [List.length_map]; omega)) ?_).2
      rw [zxd hap]
      exact ⟨_, (by repeat (first | exact Le.nil | apply Le.keep | apply Le.drop)), rws ++ [(.step (1 + f) (x - 2, y - 2) s, sl)], _, _, _, _, _, rfl, by rw [List.map_append]; rfl, by rw [List.length_append, List.length_singleton, hi], app (.step (1 + f) (x - 2, y - 2) s) sl ⟨sp, ⟨by show (1 : Int) ≤ 1 + f; omega, by show 1 + f ≤ 9; omega⟩, ⟨by dsimp only; omega, by dsimp only; omega⟩, fun h => h.elim, fun f a e => by cases e⟩⟩
    · skip
      refine zb6 (by decide) hl fun f f0 f1 => ?_
      simp_arith only [true_and]
      refine zak zc2 zbv false (show (("turn" : Str) == "step") = false by decide +kernel) ?_
      simp_arith only [true_and]
      refine zak zc2 zc2 true (show (("turn" : Str) == "turn") = true by decide +kernel) ?_
      simp_arith only [true_and]
      refine zb6 (by decide) hl fun x x0 x1 => ?_
      simp_arith only [true_and]
      refine ⟨by simp only [tyD, zmi hap], ?_⟩
      refine zpu zc2 zbv zdl false (by decide +kernel) ?_
      simp_arith only [true_and]
      refine (znm (y := rawD (.turn (1 + f) (1 + x), [(0, 0)])) (zmi hap) (zes (by rw [List.length_map]; omega)) ?_).2
      rw [zxd hap]
      exact ⟨_, (by repeat (first | exact Le.nil | apply Le.keep | apply Le.drop)), rws ++ [(.turn (1 + f) (1 + x), [(0, 0)])], _, _, _, _, _, rfl, by rw [List.map_append]; rfl, by rw [List.length_append, List.length_singleton, hi], app (.turn (1 + f) (1 + x)) [(0, 0)] ⟨zo2, ⟨by show (1 : Int) ≤ 1 + f; omega, by show 1 + f ≤ 9; omega⟩, ⟨by omega, by omega⟩, fun _ => rfl, fun f a e => by cases e⟩⟩
    · skip
      refine zb6 (by decide) hl fun f f0 f1 => ?_
      simp_arith only [true_and]
      refine zak zbw zbv false (show (("look" : Str) == "step") = false by decide +kernel) ?_
      simp_arith only [true_and]
      refine zak zbw zc2 false (show (("look" : Str) == "turn") = false by decide +kernel) ?_
      simp_arith only [true_and]
      refine zak zbw zbw true (show (("look" : Str) == "look") = true by decide +kernel) ?_
      simp_arith only [true_and]
      refine ⟨by simp only [tyD, zmi hap], ?_⟩
      refine zpu zbw zbv zdl false (by decide +kernel) ?_
      simp_arith only [true_and]
      refine (znm (y := rawD (.look (1 + f) 0, [(0, 0)])) (zmi hap) (zes (by rw [List.length_map]; omega)) ?_).2
      rw [zxd hap]
      exact ⟨_, (by repeat (first | exact Le.nil | apply Le.keep | apply Le.drop)), rws ++ [(.look (1 + f) 0, [(0, 0)])], _, _, _, _, _, rfl, by rw [List.map_append]; rfl, by rw [List.length_append, List.length_singleton, hi], app (.look (1 + f) 0) [(0, 0)] ⟨zo2, ⟨by show (1 : Int) ≤ 1 + f; omega, by show 1 + f ≤ 9; omega⟩, ⟨by omega, by omega⟩, fun _ => rfl, fun f a e => by cases e; rfl⟩⟩
    · skip
      refine zb6 (by decide) hl fun f f0 f1 => ?_
      simp_arith only [true_and]
      refine zak zdl zbv false (show (("land" : Str) == "step") = false by decide +kernel) ?_
      simp_arith only [true_and]
      refine zak zdl zc2 false (show (("land" : Str) == "turn") = false by decide +kernel) ?_
      simp_arith only [true_and]
      refine zak zdl zbw false (show (("land" : Str) == "look") = false by decide +kernel) ?_
      simp_arith only [true_and]
      refine ⟨by simp only [tyD, zmi hap], ?_⟩
      refine zpu zdl zbv zdl true (by decide +kernel) ?_
      simp_arith only [true_and]
      refine ⟨a, ns, _, _, _, slL.map (eT e2), rfl, rfl, hl, .inl rfl, by decide, fun sld hs => ?_⟩
      obtain ⟨sl, hsl, rfl⟩ := List.mem_map.mp hs
      obtain ⟨s, sp⟩ := ztr hsl
      refine (znm (y := rawD (.land (1 + f) s, sl)) (zmi hap) (zes (by rw [List.length_map]; omega)) ?_).2
      rw [zxd hap]
      exact ⟨_, (by repeat (first | exact Le.nil | apply Le.keep | apply Le.drop)), rws ++ [(.land (1 + f) s, sl)], _, _, _, _, _, rfl, by rw [List.map_append]; rfl, by rw [List.length_append, List.length_singleton, hi], app (.land (1 + f) s) sl ⟨sp, ⟨by show (1 : Int) ≤ 1 + f; omega, by show 1 + f ≤ 9; omega⟩, trivial, fun h => h.elim, fun f a e => by cases e⟩⟩
    · skip
      refine zb6 (by decide) hl fun f f0 f1 => ?_
      simp_arith only [true_and]
      refine zak zff zbv false (show (("away" : Str) == "step") = false by decide +kernel) ?_
      simp_arith only [true_and]
      refine zak zff zc2 false (show (("away" : Str) == "turn") = false by decide +kernel) ?_
      simp_arith only [true_and]
      refine zak zff zbw false (show (("away" : Str) == "look") = false by decide +kernel) ?_
      simp_arith only [true_and]
      refine ⟨by simp only [tyD, zmi hap], ?_⟩
      refine zpu zff zbv zdl false (by decide +kernel) ?_
      simp_arith only [true_and]
      refine (znm (y := rawD (.away (1 + f), [(0, 0)])) (zmi hap) (zes (by rw [List.length_map]; omega)) ?_).2
      rw [zxd hap]
      exact ⟨_, (by repeat (first | exact Le.nil | apply Le.keep | apply Le.drop)), rws ++ [(.away (1 + f), [(0, 0)])], _, _, _, _, _, rfl, by rw [List.map_append]; rfl, by rw [List.length_append, List.length_singleton, hi], app (.away (1 + f)) [(0, 0)] ⟨zo2, ⟨by show (1 : Int) ≤ 1 + f; omega, by show 1 + f ≤ 9; omega⟩, trivial, fun _ => rfl, fun f a e => by cases e⟩⟩
  · rintro η G' ⟨rws, c', x3, x4, x5, x6, rfl, rfl, hi, hr⟩
    rw [List.length_map, zhk] at hi
    simp_arith only [zmi hap, z3y hap hp0, DO.tree]
    exact q rws c' (by omega) hr
end M
namespace M
open PySem PySem.Spec PyProof.Rows L2 DL
variable [CA]
abbrev zu3 : List Str := ["script", "draw", "craters", "numbers", "turns", "low_a", "low_b", "area", "ground", "camera", "sky", "due", "heading", "a", "rows", "deeds", "foot", "room", "craft", "deed", "kind", "fuel", "aim", "slips", "number", "b", "raw"]
def zuw : DTS :=
    (dIfS (dOr (zay (dOp dNe (dFld CA.Ground "craters" (zk 8)) (dCB zll (zi (zk 2) dNil)))) (zay (dOp dNe (dTup (zi (dFld CA.Camera "width" (zk 9)) (zi (dFld CA.Camera "height" (zk 9)) (zi (dFld CA.Camera "error" (zk 9)) (zi (dFld CA.Camera "false" (zk 9)) (zi (dFld CA.Camera "lost" (zk 9)) dNil)))))) (zk 3))))
    (dRet (dC (.bl false)))
    zdd)
def zvh : DTS :=
    (dIfS (dOr (zay (dOp (dEqI zla true) (dFld CA.Sky "ground" (zk 10)) (zk 8))) (dOr (zay (dOp (dEqI zo4 true) (dFld CA.Sky "camera" (zk 10)) (zk 9))) (dOr (zay (dOp dNe (dFld CA.Sky "turns" (zk 10)) (zk 4))) (zay (dOp dNe (dFld CA.Sky "area" (zk 10)) (zk 7))))))
    (dRet (dC (.bl false)))
    zdd)
def zph : DTS :=
    (dFor (zgr (zk 4)) (zab 12)
    (dFor (zg4 (zi (dOp dIx (zk 7) (dC (.int 0))) (zi (dOp dAdd (dOp dIx (zk 7) (dC (.int 1))) (dC (.int 1))) dNil))) (zab 13)
    (dAsg (dOp dAdd (zk 11) (dFz (dLc (zg4 (zi (dOp dIx (zk 7) (dC (.int 2))) (zi (dOp dAdd (dOp dIx (zk 7) (dC (.int 3))) (dC (.int 1))) dNil))) (zab 25) dYes (dTup (zi (zk 12) (zi (zk 13) (zi (zk 25) dNil)))) [25]))) (zab 11))))
def zrq : DTS :=
    (dIfS (zay (dOp dNe (zlv CA.Sky "standings" zcg (zk 10) dNil) (dCB zll (zi (zk 11) dNil))))
    (dRet (dC (.bl false)))
    zdd)
def zru : DTS :=
    (dIfS (dOr (zay (dOp (zuz zql 2 true) (dFld CA.Craft "skies" (zk 18)) (dTup (zi (zk 10) dNil)))) (dOr (zay (dOp dNe (dFld CA.Craft "foot" (zk 18)) (zk 16))) (dOr (zay (dOp dNe (dFld CA.Craft "room" (zk 18)) (zk 17))) (zay (dOp (zuz zli 2 true) (dFld CA.Craft "deeds" (zk 18)) (zk 15))))))
    (dRet (dC (.bl false)))
    zdd)
def zo5 : DTS :=
    (dFor (zxp (zi (dFld CA.Craft "deeds" (zk 18)) (zi (zk 14) dNil))) (zkw (zc1 (zab 19) (zc1 (zkw (zc1 (zab 20) (zc1 (zab 21) (zc1 (zab 22) (zc1 (zab 23) zkl)))) 4) zkl)) 2)
    (dSeq (dIfS (zay (dOp dNe (dTup (zi (dFld CA.Deed "kind" (zk 19)) (zi (dFld CA.Deed "fuel" (zk 19)) (zi (dFld CA.Deed "aim" (zk 19)) (zi (dFld CA.Deed "slips" (zk 19)) dNil))))) (dTup (zi (zk 20) (zi (zk 21) (zi (zk 22) (zi (dCB zll (zi (dFz (dCB zrr (zi (zk 23) dNil))) dNil)) dNil)))))))
    (dRet (dC (.bl false)))
    zdd)
    (dIfS (dOr (zay (dOp (dEqI zpe true) (zk 19) (dFz (zfl CA.Deed zq (zi (zk 20) (zi (zk 21) (zi (zk 22) (zi (zk 23) dNil)))))))) (zay (dOp (dEqI zpe false) (zk 19) (dFz (zfl CA.Deed zq (zi (zk 20) (zi (dOp dAdd (zk 21) (dC (.int 1))) (zi (zk 22) (zi (zk 23) dNil)))))))))
    (dRet (dC (.bl false)))
    zdd)))
def zko : DTS :=
    (dRet (zhq (dOp (dEqI zl7 false) (zk 18) (dFz (zfl CA.Craft za3 (zi (dTup (zi (zk 10) dNil)) (zi (zk 16) (zi (zk 17) (zi (zk 15) dNil))))))) (zhq (dOp (dEqI zl7 true) (zk 18) (dFz (zfl CA.Craft za3 (zi (dTup (zi (zk 10) dNil)) (zi (zk 16) (zi (dOp dAdd (zk 17) (dC (.int 1))) (zi (zk 15) dNil))))))) (dOp (dEqI zla true) (zk 8) (dFz (zfl CA.Ground za5 (zi (dOp dAdd (zk 2) (zlh (zi (dTup (zi (dC (.int 0)) (zi (dC (.int 0)) (zi (dC (.int 9)) dNil)))) dNil))) dNil)))))))
def z2x : DTS :=
    (dSeq (dAsg (zne (zi (zk 0) (zi (dC (.int 0)) dNil))) (zab 1))
    (dSeq (dAsg (dFz (dCB zrt (zi (dFz (dLc (zk6 (zi (dCB zp (zi (zk 1) (zi (dC (.int 5)) dNil))) dNil)) (zab 24) dYes (dTup (zi (dOp dSub (dCB zp (zi (zk 1) (zi (dC (.int 9)) dNil))) (dC (.int 4))) (zi (dOp dSub (dCB zp (zi (zk 1) (zi (dC (.int 9)) dNil))) (dC (.int 4))) (zi (dOp dAdd (dC (.int 1)) (dCB zp (zi (zk 1) (zi (dC (.int 3)) dNil)))) dNil)))) [24])) dNil))) (zab 2))
    (dSeq (dAsg (dTup (zi (dOp dAdd (dC (.int 1)) (dCB zp (zi (zk 1) (zi (dC (.int 9)) dNil)))) (zi (dOp dAdd (dC (.int 1)) (dCB zp (zi (zk 1) (zi (dC (.int 9)) dNil)))) (zi (dCB zp (zi (zk 1) (zi (dC (.int 4)) dNil))) (zi (dCB zp (zi (zk 1) (zi (dC (.int 4)) dNil))) (zi (dCB zp (zi (zk 1) (zi (dC (.int 4)) dNil))) dNil)))))) (zab 3))
    (dSeq (dAsg (dCB zb4 (zi (zk 1) (zi (zlh (zi (dTup (zi (dC (.int 0)) dNil)) (zi (dTup (zi (dC (.int 0)) (zi (dC (.int 1)) dNil))) (zi (dTup (zi (dC (.int 1)) (zi (dC (.int 2)) (zi (dC (.int 3)) dNil)))) (zi (dTup (zi (dC (.int 0)) (zi (dC (.int 1)) (zi (dC (.int 2)) (zi (dC (.int 3)) dNil))))) dNil))))) dNil))) (zab 4))
    (dSeq (dPar 5 6 (zi (dOp dSub (dCB zp (zi (zk 1) (zi (dC (.int 5)) dNil))) (dC (.int 2))) (zi (dOp dSub (dCB zp (zi (zk 1) (zi (dC (.int 5)) dNil))) (dC (.int 2))) dNil)))
    (dSeq (dAsg (dTup (zi (zk 5) (zi (dOp dAdd (zk 5) (dCB zp (zi (zk 1) (zi (dC (.int 4)) dNil)))) (zi (zk 6) (zi (dOp dAdd (zk 6) (dCB zp (zi (zk 1) (zi (dC (.int 4)) dNil)))) dNil))))) (zab 7))
    (dSeq (dPar 8 9 (zi (dFz (zfl CA.Ground za5 (zi (z1l (zk 2)) dNil))) (zi (dFz (zfl CA.Camera zbp (zi (dOp dIx (zk 3) (dC (.int 0))) (zi (dOp dIx (zk 3) (dC (.int 1))) (zi (dOp dIx (zk 3) (dC (.int 2))) (zi (dOp dIx (zk 3) (dC (.int 3))) (zi (dOp dIx (zk 3) (dC (.int 4))) dNil))))))) dNil)))
    (dSeq (dAsg (dFz (zfl CA.Sky zcx (zi (zk 8) (zi (zk 9) (zi (zk 4) (zi (zk 7) dNil)))))) (zab 10))
    (dSeq zuw
    (dSeq zvh
    (dSeq (dAsg (zlh dNil) (zab 11))
    (dSeq zph
    (dSeq zrq
    (dSeq (dAsg (dCB ze7 (zi (zk 1) dNil)) (zab 14))
    (dSeq (z2u 15 16 17 (zi (dCB zll (zi (dFz (dLc (zgr (zk 14)) (zab 26) dYes (dCB zel (zi (zk 26) dNil)) [26])) dNil)) (zi (dTup (zi (dOp dSub (dCB zp (zi (zk 1) (zi (dC (.int 5)) dNil))) (dC (.int 2))) (zi (dOp dSub (dCB zp (zi (zk 1) (zi (dC (.int 5)) dNil))) (dC (.int 2))) dNil))) (zi (dCB zp (zi (zk 1) (zi (dC (.int 4)) dNil))) dNil))))
    (dSeq (dAsg (dFz (zfl CA.Craft za3 (zi (dTup (zi (zk 10) dNil)) (zi (zk 16) (zi (zk 17) (zi (zk 15) dNil)))))) (zab 18))
    (dSeq zru
    (dSeq zo5
    zko))))))))))))))))))
def stL (ns : List Int) (a : Addr) (o2 o3 o4 o5 o6 o7 o8 o9 o10 o11 o12 o13 o14 o15 o16 o17 o18 o19 o20 o21 o22 o23 : Option D) : DSt := [some (.nd .scr (ns.map .int)), some (.ref a), o2, o3, o4, o5, o6, o7, o8, o9, o10, o11, o12, o13, o14, o15, o16, o17, o18, o19, o20, o21, o22, o23, none, none, none]
structure SkL (s : Sk) : Prop where
  cl : s.cs.length ≤ 4
  cb : ∀ p ∈ s.cs, (-4 ≤ p.1 ∧ p.1 ≤ 4) ∧ (-4 ≤ p.2.1 ∧ p.2.1 ≤ 4) ∧ 1 ≤ p.2.2 ∧ p.2.2 ≤ 3
  srt : srtT e3 s.cs = s.cs
  w : 1 ≤ s.cam.w ∧ s.cam.w ≤ 9
  h : 1 ≤ s.cam.h ∧ s.cam.h ≤ 9
  er : 0 ≤ s.cam.er ∧ s.cam.er ≤ 3
  fa : 0 ≤ s.cam.fa ∧ s.cam.fa ≤ 3
  lo : 0 ≤ s.cam.lo ∧ s.cam.lo ≤ 3
  tu : s.tu = [0] ∨ s.tu = [0, 1] ∨ s.tu = [1, 2, 3] ∨ s.tu = [0, 1, 2, 3]
  a1 : -2 ≤ s.ar.1 ∧ s.ar.1 ≤ 2
  a2 : s.ar.1 ≤ s.ar.2.1 ∧ s.ar.2.1 ≤ s.ar.1 + 3
  b1 : -2 ≤ s.ar.2.2.1 ∧ s.ar.2.2.1 ≤ 2
  b2 : s.ar.2.2.1 ≤ s.ar.2.2.2 ∧ s.ar.2.2.2 ≤ s.ar.2.2.1 + 3
theorem SkL.pts {s : Sk} (k : SkL s) : ∀ p ∈ s.cs, okPt (0 - 1000000) 1000000 p := fun p hp => by
  obtain ⟨h1, h2, h3⟩ := k.cb p hp
  exact ⟨⟨by omega, by omega⟩, ⟨by omega, by omega⟩, by omega, by omega⟩
theorem SkL.cam {s : Sk} (k : SkL s) : z0l s.cam := by
  obtain ⟨h1, h2⟩ := k.w
  obtain ⟨h3, h4⟩ := k.h
  obtain ⟨h5, h6⟩ := k.er
  obtain ⟨h7, h8⟩ := k.fa
  obtain ⟨h9, h10⟩ := k.lo
  exact ⟨⟨by omega, by omega⟩, ⟨by omega, by omega⟩, ⟨by omega, by omega⟩, ⟨by omega, by omega⟩, by omega, by omega⟩
theorem SkL.tul {s : Sk} (k : SkL s) : 1 ≤ s.tu.length ∧ s.tu.length ≤ 4 := by
  rcases k.tu with h | h | h | h <;> (rw [h]; simp)
theorem SkL.si {s : Sk} (k : SkL s) : OkSI s.tu s.ar := by
  obtain ⟨a1, a2⟩ := k.a1
  obtain ⟨b1, b2⟩ := k.a2
  obtain ⟨c1, c2⟩ := k.b1
  obtain ⟨d1, d2⟩ := k.b2
  refine ⟨?_, ?_, ?_, k.tul.2, ⟨by omega, by omega, by omega⟩, ⟨by omega, by omega, by omega⟩, ?_⟩
  · have := k.tul.1
    intro e
    rw [e] at this
    simp at this
  · rcases k.tu with h | h | h | h <;> (rw [h]; decide)
  · rcases k.tu with h | h | h | h <;> (rw [h]; decide)
  · have h1 := k.tul.2
    have h2 : (s.tu.length : Int) * (s.ar.2.1 - s.ar.1 + 1) ≤ 4 * 4 := Int.mul_le_mul (by omega) (by omega) (by omega) (by omega)
    have h3 : (s.tu.length : Int) * (s.ar.2.1 - s.ar.1 + 1) * (s.ar.2.2.2 - s.ar.2.2.1 + 1) ≤ 16 * 4 := Int.mul_le_mul (by omega) (by omega) (by omega) (by omega)
    omega
theorem SkL.ok {s : Sk} (k : SkL s) : OkSk s := by
  obtain ⟨a1, a2⟩ := k.a1
  obtain ⟨b1, b2⟩ := k.a2
  obtain ⟨c1, c2⟩ := k.b1
  obtain ⟨d1, d2⟩ := k.b2
  exact ⟨by have := k.cl; omega, k.pts, k.cam, k.tul.2, ⟨by omega, by omega, by omega⟩, ⟨by omega, by omega, by omega⟩, by omega, by omega⟩
def numD (c : Cam) : D := .nd .tup [.int c.w, .int c.h, .int c.er, .int c.fa, .int c.lo]
section
variable {ns : List Int} {a : Addr} {s : Sk}
theorem zxi {d : D} {G : DHp} {Q : DVK} (h : zba (der d G) = true) (dp : (py (der d G)).depth ≤ 64) (q : Q (.bl false) G) : dNe d d G Q :=
  zwm h h dp dp false ⟨fun z => (by cases z), fun z => absurd rfl z⟩ q
theorem a_ok {F : ziv} {G : DHp} {o4 o5 o6 o7 o10 : Option D} (k : F.nx (stL ns a (some (eL e3 s.cs)) (some (numD s.cam)) o4 o5 o6 o7 (some (gD s.cs)) (some (cD s.cam)) o10 none none none none none none none none none none none none none) G) :
    zuw F (stL ns a (some (eL e3 s.cs)) (some (numD s.cam)) o4 o5 o6 o7 (some (gD s.cs)) (some (cD s.cam)) o10 none none none none none none none none none none none none none) G := by
  simp_arith only [zuw, stL, dFld, zni, zwl, zs5, zwc, zwo, zyx]
  rw [zl1 (ds := s.cs.map e3) rfl]
  refine zxi (d := eT e3 s.cs) (zg2 (f := e3) zjp s.cs) (Nat.le_trans (zgg (B := 1) (f := e3) zjj s.cs) (by decide)) ?_
  simp_arith only [true_and]
  refine zxi (d := camT s.cam) (zk4 s.cam) (Nat.le_trans (zlc s.cam) (by decide)) ?_
  simp_arith only [true_and]
  exact k
theorem b_ok {F : ziv} {G : DHp} {o2 o3 o5 o6 : Option D} (k : F.nx (stL ns a o2 o3 (some (eT .int s.tu)) o5 o6 (some (e4 s.ar)) (some (gD s.cs)) (some (cD s.cam)) (some (sD s)) none none none none none none none none none none none none none) G) :
    zvh F (stL ns a o2 o3 (some (eT .int s.tu)) o5 o6 (some (e4 s.ar)) (some (gD s.cs)) (some (cD s.cam)) (some (sD s)) none none none none none none none none none none none none none) G := by
  simp_arith only [zvh, stL, dFld, zqd, zpa, zle, zl3]
  refine ⟨true, ⟨s.cs, s.cs, rfl, rfl, (decide_eq_true rfl).symm⟩, ?_⟩
  simp_arith only [true_and]
  refine ⟨true, ⟨⟨s.cam, rfl⟩, rfl, rfl⟩, ?_⟩
  simp_arith only [true_and]
  refine zxi (d := eT .int s.tu) (zk2 _) (Nat.le_trans (zk8 _) (by decide)) ?_
  simp_arith only [true_and]
  refine zxi (d := e4 s.ar) (zk2 [s.ar.1, s.ar.2.1, s.ar.2.2.1, s.ar.2.2.2]) (Nat.le_trans (zk8 [s.ar.1, s.ar.2.1, s.ar.2.2.1, s.ar.2.2.2]) (by decide)) ?_
  simp_arith only [true_and]
  exact k
theorem z4g {F : ziv} {G : DHp} {o2 o3 o5 o6 o8 o9 o10 : Option D} (sl : SkL s) (k : ∀ o12 o13, F.nx (stL ns a o2 o3 (some (eT .int s.tu)) o5 o6 (some (e4 s.ar)) o8 o9 o10 (some (eL e3 (zlk s))) o12 o13 none none none none none none none none none none) G) :
    zph F (stL ns a o2 o3 (some (eT .int s.tu)) o5 o6 (some (e4 s.ar)) o8 o9 o10 (some (.nd .lst [])) none none none none none none none none none none none none) G := by
  have ok := sl.ok
  simp_arith only [zph, stL, dFor, zgr, eT]
  refine ⟨fun i η G' => ∃ o12 o13, η = stL ns a o2 o3 (some (eT .int s.tu)) o5 o6 (some (e4 s.ar)) o8 o9 o10 (some (eL e3 ((s.tu.take i).flatMap (colS s)))) o12 o13 none none none none none none none none none none ∧ G' = G, ⟨none, none, rfl, rfl⟩, fun _ _ _ _ => trivial, ?_, ?_⟩
  · rintro i d η G' hd ⟨o12, o13, rfl, rfl⟩
    obtain ⟨t, ht, rfl⟩ := zhp hd
    simp_arith only [stL, e4]
    obtain ⟨p1, p2⟩ := sl.a1
    obtain ⟨p3, p4⟩ := sl.a2
    obtain ⟨q1, q2⟩ := sl.b1
    obtain ⟨q3, q4⟩ := sl.b2
    simp_arith only [zg4]
    refine zie (i := 0) (by decide) rfl ?_
    refine zie (i := 1) (by decide) rfl ?_
    simp_arith only [true_and]
    refine ⟨⟨by omega, by omega, by omega⟩, ?_⟩
    refine ⟨fun j η G2 => ∃ o13, η = stL ns a o2 o3 (some (eT .int s.tu)) o5 o6 (some (e4 s.ar)) o8 o9 o10 (some (eL e3 ((s.tu.take i).flatMap (colS s) ++ ((zfw s.ar.1 (s.ar.2.1 + 1)).take j).flatMap (rowS s t)))) (some (.int t)) o13 none none none none none none none none none none ∧ G2 = G', ⟨o13, by rw [List.take_zero, List.flatMap_nil, List.append_nil]; rfl, rfl⟩, fun _ _ _ _ => trivial, ?_, ?_⟩
    · rintro j dx η G2 hdx ⟨o13, rfl, rfl⟩
      obtain ⟨x, hx, rfl⟩ := zhp hdx
      have hsl := zs2 ok i
      have hcl := zvw ok t j
      have hrl := zx7 ok t x
      simp_arith only [stL, e4]
      refine zkk (xs := zfw s.ar.2.2.1 (s.ar.2.2.2 + 1)) (f := .int) (fun y => e3 (t, x, y)) (by rw [zhk]; omega) (fun R r => ?_) (fun y hy G1 A kk => ?_) fun w1 hw1 => ?_
      · simp_arith only [zg4]
        refine zie (i := 2) (by decide) rfl ?_
        refine zie (i := 3) (by decide) rfl ?_
        simp_arith only [true_and]
        exact ⟨⟨by omega, by omega, by omega⟩, r⟩
      · simp_arith only [true_and]
        exact kk
      · simp_arith only [zt, ze1 hw1, DO.tree]
        refine zp2 (xs := ((s.tu.take i).flatMap (colS s) ++ ((zfw s.ar.1 (s.ar.2.1 + 1)).take j).flatMap (rowS s t)).map e3) (ys := (rowS s t x).map e3) rfl (by unfold rowS; rw [List.map_map]; rfl) (zzc (by rw [List.length_map, List.length_map, List.length_append]; omega)) ?_
        refine ⟨_, (by repeat (first | exact Le.nil | apply Le.keep | apply Le.drop)), some (.int x), ?_, rfl⟩
        rw [zsj hx, ← List.append_assoc, ← List.map_append]
        rfl
    · rintro η G2 ⟨o13, rfl, rfl⟩
      rw [List.length_map, List.take_length]
      refine ⟨_, (by repeat (first | exact Le.nil | apply Le.keep | apply Le.drop)), some (.int t), o13, ?_, rfl⟩
      rw [zsj ht]
      rfl
  · rintro η G' ⟨o12, o13, rfl, rfl⟩
    rw [List.length_map, List.take_length]
    exact k o12 o13
theorem z5i {F : ziv} {G : DHp} {o2 o3 o4 o5 o6 o7 o8 o9 o12 o13 : Option D} (sl : SkL s) (k : F.nx (stL ns a o2 o3 o4 o5 o6 o7 o8 o9 (some (sD s)) (some (eL e3 (zlk s))) o12 o13 none none none none none none none none none none) G) :
    zrq F (stL ns a o2 o3 o4 o5 o6 o7 o8 o9 (some (sD s)) (some (eL e3 (zlk s))) o12 o13 none none none none none none none none none none) G := by
  simp_arith only [zrq, stL, zlv]
  refine ⟨z11 (by decide +kernel), ?_⟩
  refine ⟨s, rfl, sl.ok, ?_⟩
  simp_arith only [true_and]
  rw [zl1 (ds := (zlk s).map e3) rfl]
  refine zxi (d := eT e3 (zlk s)) (zg2 (f := e3) zjp _) (Nat.le_trans (zgg (B := 1) (f := e3) zjj _) (by decide)) ?_
  simp_arith only [true_and]
  exact k
theorem zyo {P : D → Prop} (h : ∀ d : Dd, P (ddD d)) : ∀ ds : List Dd, ItsT P 2 (ds.map ddD) (ds.map ddD) true
  | [] => .nil
  | d :: ds => .same (.inl (.inr (.inr (h d)))) (zyo h ds)
/-- the craft of the law -/
def znv (s : Sk) (foot : Int × Int) (room : Int) (ds : List Dd) : Cr := ⟨s.cs, s.tu, s.ar, [s.cam], foot, room, ds⟩
theorem z5b {F : ziv} {G : DHp} {foot : Int × Int} {room : Int} {ds : List Dd} {o2 o3 o4 o5 o6 o7 o8 o9 o11 o12 o13 o14 : Option D} (sl : SkL s)
    (k : F.nx (stL ns a o2 o3 o4 o5 o6 o7 o8 o9 (some (sD s)) o11 o12 o13 o14 (some (eT ddD ds)) (some (e2 foot)) (some (.int room)) (some (crD (znv s foot room ds))) none none none none none) G) :
    zru F (stL ns a o2 o3 o4 o5 o6 o7 o8 o9 (some (sD s)) o11 o12 o13 o14 (some (eT ddD ds)) (some (e2 foot)) (some (.int room)) (some (crD (znv s foot room ds))) none none none none none) G := by
  simp_arith only [zru, stL, dFld, zwz, zy3, zyr, zsq]
  refine ⟨[sD s], [sD s], true, rfl, rfl, .same (.inl (.inr (.inr ⟨s, rfl, by have := sl.cl; omega, by have := sl.tul.2; omega⟩))) .nil, ?_⟩
  simp_arith only [true_and]
  refine zxi (d := e2 foot) (zrx foot) (Nat.le_trans (zmj foot) (by decide)) ?_
  simp_arith only [true_and]
  rw [if_neg (by simp [znv])]
  refine ⟨_, _, true, rfl, rfl, zyo (P := zli) (fun d => ⟨d, rfl⟩) ds, ?_⟩
  simp_arith only [true_and]
  exact k
end
end M
namespace M
open PySem PySem.Spec PyProof.Rows L2 DL
variable [CA]
theorem zx2 {α : Type} {f : α → D} {xs : List α} {G : DHp} {Q : DVK} (cl : ∀ a, zba (f a) = true) (al : ∀ a b, PySem.W.alike (py (f a)) (py (f b)) = true) (st : PySem.W.Sortable ((xs.map f).map py)) (dp : ∀ a, (py (f a)).depth ≤ 60) (q : ∀ p, G p = none → Q (.ref p) (up G p (.lst ((srtT f xs).map f)))) : zrr [eT f xs] G Q := by
  refine ⟨⟨?_, ?_, st, fun d hd => ?_⟩, fun p hp => by rw [zun]; exact q p hp⟩
  · exact cleans_plain (zi7 cl xs)
  · rw [List.map_map]; exact PySem.W.AllAlike.of fun a b => al a b
  · obtain ⟨a, _, rfl⟩ := List.mem_map.mp hd; exact dp a
theorem zw2 (d : Dd) : PyData.strOk d.kind = true := by
  cases d
  · exact zbv
  · exact zc2
  · exact zbw
  · exact zdl
  · exact zff
theorem zxy (p : Int × Int) : zan (e2 p) = true := rfl
theorem zx3 (s : List (Int × Int)) : zan (eT e2 s) = true := zva zxy s
theorem zq1 (d : Dd) : zan (ddT d) = true := by
  show (zan (.str d.kind) && (zan (.int d.fuel) && (zan d.aim && (zan (eT e2 d.sl) && true)))) = true
  have h1 : zan (.str d.kind) = true := zw2 d
  have h2 : zan d.aim = true := by cases d <;> rfl
  rw [h1, h2, zx3]
  rfl
theorem zuc (d : Dd) : (py (ddT d)).depth ≤ 64 := by
  have h1 : (py (eT e2 d.sl)).depth ≤ 2 := zgg (B := 1) (f := e2) (fun a => Nat.le_trans (zmj a) (by decide)) d.sl
  have h2 : (py d.aim).depth ≤ 1 := by
    cases d with
    | step f a s => exact zmj a
    | turn f a => exact Nat.zero_le _
    | look f a => exact Nat.zero_le _
    | land f s => exact Nat.zero_le _
    | away f => exact Nat.zero_le _
  unfold ddT
  rw [py, pys, pys, pys, pys, pys, PyData.depth, PyData.depthAll, PyData.depthAll, PyData.depthAll, PyData.depthAll, PyData.depthAll]
  have h3 : (py (.str d.kind)).depth = 0 := rfl
  have h4 : (py (.int d.fuel)).depth = 0 := rfl
  omega
theorem zwp : ∀ rws : List (Dd × List (Int × Int)), zipL ((rws.map (·.1)).map ddD) (rws.map rawD) = rws.map fun r => .nd .tup [ddD r.1, rawD r]
  | [] => rfl
  | r :: rws => by
    have ih := zwp rws
    unfold zipL at *
    simp only [List.map_cons, List.zipWith_cons_cons, ih]
section
variable {ns : List Int} {a : Addr} {s : Sk}
theorem z4y {F : ziv} {G : DHp} {c : Cr} {rws : List (Dd × List (Int × Int))} {o2 o3 o4 o5 o6 o7 o8 o9 o10 o11 o12 o13 o15 o16 o17 : Option D} (hd : c.deeds = rws.map (·.1)) (hr : ∀ r ∈ rws, RawP r.1 r.2)
    (k : ∀ o19 o20 o21 o22 o23, F.nx (stL ns a o2 o3 o4 o5 o6 o7 o8 o9 o10 o11 o12 o13 (some (.nd .lst (rws.map rawD))) o15 o16 o17 (some (crD c)) o19 o20 o21 o22 o23) G) :
    zo5 F (stL ns a o2 o3 o4 o5 o6 o7 o8 o9 o10 o11 o12 o13 (some (.nd .lst (rws.map rawD))) o15 o16 o17 (some (crD c)) none none none none none) G := by
  simp_arith only [zo5, stL, dFor, zxp, dFld, zsq]
  rw [hd]
  have ez : zipL (List.map ddD (rws.map (·.1))) (rws.map rawD) = rws.map fun r => .nd .tup [ddD r.1, rawD r] := zwp rws
  simp_arith only [eT, ez]
  refine ⟨fun i η G' => G' = G ∧ ∃ o19 o20 o21 o22 o23, η = stL ns a o2 o3 o4 o5 o6 o7 o8 o9 o10 o11 o12 o13 (some (.nd .lst (rws.map rawD))) o15 o16 o17 (some (crD c)) o19 o20 o21 o22 o23, ⟨rfl, none, none, none, none, none, rfl⟩, fun _ _ _ _ => trivial, ?_, ?_⟩
  · rintro i d η G' hdd ⟨rfl, o19, o20, o21, o22, o23, rfl⟩
    obtain ⟨r, hri, rfl⟩ := zhp hdd
    have rp := hr r (List.mem_of_getElem? hri)
    obtain ⟨d, sl⟩ := r
    simp_arith only [stL, rawD, zvg, zyh, zx8, zwi]
    refine zx2 (f := e2) zrx DL.al2 (DL.st2 _) (fun a => Nat.le_trans (zmj a) (by decide)) fun w hw => ?_
    simp_arith only [zt, ze1 hw, DO.tree]
    rw [zl1 (ds := (srtT e2 sl).map e2) rfl]
    have es : srtT e2 sl = d.sl := rp.slp.srt
    rw [es]
    refine z2b (d := ddT d) (e := ddT d) (zq1 d) (zq1 d) (zuc d) (zuc d) false ⟨fun z => (by cases z), fun z => absurd rfl z⟩ ?_
    simp_arith only [zfl]
    intro x hx
    refine ⟨x, d, sl, rfl, zt, rp.mk4, ?_⟩
    rw [ze5]
    refine ⟨rfl, ?_⟩
    simp_arith only [zt, ze1 hx, DO.tree]
    refine ⟨true, ⟨d, d, rfl, rfl, ⟨rfl, rfl, rfl⟩, (decide_eq_true rfl).symm⟩, ?_⟩
    simp_arith only [zfl]
    intro x2 hx2
    obtain ⟨sm, ef⟩ := z4e d
    refine ⟨x2, d.up, sl, by rw [← sm.kind, ← sm.aim, ef], zt, rp.mk4up, ?_⟩
    rw [ze5]
    refine ⟨rfl, ?_⟩
    simp_arith only [zt, ze1 hx2, DO.tree]
    refine ⟨false, ⟨d, d.up, rfl, rfl, sm, (decide_eq_false (by rw [ef]; omega)).symm⟩, ?_⟩
    simp_arith only [true_and]
    exact ⟨_, (by repeat (first | exact Le.nil | apply Le.keep | apply Le.drop)), rfl, _, _, _, _, _, rfl⟩
  · rintro η G' ⟨rfl, o19, o20, o21, o22, o23, rfl⟩
    exact k o19 o20 o21 o22 o23
theorem z4s {F : ziv} {G : DHp} {foot : Int × Int} {room : Int} {ds : List Dd} {o3 o4 o5 o6 o7 o9 o11 o12 o13 o14 o19 o20 o21 o22 o23 : Option D} (sl : SkL s) (ok1 : OkCr (znv s foot room ds)) (ok2 : OkCr (znv s foot (room + 1) ds))
    (k : F.rt (.bl true) G) :
    zko F (stL ns a (some (eL e3 s.cs)) o3 o4 o5 o6 o7 (some (gD s.cs)) o9 (some (sD s)) o11 o12 o13 o14 (some (eT ddD ds)) (some (e2 foot)) (some (.int room)) (some (crD (znv s foot room ds))) o19 o20 o21 o22 o23) G := by
  have hl := sl.cl
  have ht := sl.tul.2
  simp_arith only [zko, stL, zfl]
  intro x hx
  refine ⟨x, znv s foot room ds, rfl, zt, ok1, ?_⟩
  rw [ze5]
  refine ⟨rfl, ?_⟩
  simp_arith only [zt, ze1 hx, DO.tree]
  refine ⟨true, ⟨_, _, rfl, rfl, rfl, rfl, rfl, (by show s.cs.length ≤ 100; omega), (by show s.tu.length ≤ 100; omega), (decide_eq_true rfl).symm⟩, ?_⟩
  simp_arith only [zfl]
  intro x2 hx2
  refine ⟨x2, znv s foot (room + 1) ds, rfl, zt, ok2, ?_⟩
  rw [ze5]
  refine ⟨rfl, ?_⟩
  simp_arith only [zt, ze1 hx2, DO.tree]
  refine ⟨false, ⟨_, _, rfl, rfl, rfl, rfl, rfl, (by show s.cs.length ≤ 100; omega), (by show s.tu.length ≤ 100; omega), (decide_eq_false (by show ¬ room = room + 1; omega)).symm⟩, ?_⟩
  simp_arith only [zfl]
  refine zp2 (xs := s.cs.map e3) (ys := [(0, 0, 9)].map e3) rfl rfl (zzc (by rw [List.length_map, List.length_map, List.length_singleton]; omega)) ?_
  intro x3 hx3
  rw [← List.map_append]
  refine ⟨x3, s.cs ++ [(0, 0, 9)], rfl, rfl, zt, by rw [List.length_append, List.length_singleton]; omega, fun p hp => ?_, ?_⟩
  · rcases List.mem_append.mp hp with hp | hp
    · exact sl.pts p hp
    · rw [List.mem_singleton] at hp
      subst hp
      exact ⟨⟨by decide, by decide⟩, ⟨by decide, by decide⟩, by decide, by decide⟩
  rw [ze5]
  refine ⟨rfl, ?_⟩
  simp_arith only [zt, ze1 hx3, DO.tree]
  refine ⟨false, ⟨s.cs, srtT e3 (s.cs ++ [(0, 0, 9)]), rfl, rfl, (decide_eq_false fun e => ?_).symm⟩, ?_⟩
  · have := (zio e3 (s.cs ++ [(0, 0, 9)])).length_eq
    rw [← e, List.length_append, List.length_singleton] at this
    omega
  simp_arith only [true_and]
  exact k
end
end M
namespace M
open PySem PySem.Spec PyProof.Rows L2 DL
variable [CA]
def turL : List (List Int) := [[0], [0, 1], [1, 2, 3], [0, 1, 2, 3]]
def sp_law : DRn := zzg
theorem z2c : ∀ ds G Q, sp_law ds G Q → ds.length = 1 := fun ds G Q h => by
  match ds, h with
  | [_], _ => rfl
theorem z2p : ∀ ds G Q, sp_law ds G Q → z2x { nx := fun _ G' => Q .non G', rt := Q } (za4 zu3 ds) G := fun ds G Q h => by
  match ds, h with
  | [_], ⟨ns, rfl, hl, hG, q⟩ =>
    simp_arith only [z2x, zu3]
    intro a ha
    rw [show up G a (.lst [.nd .scr (ns.map .int), .int 0]) = Gw G a ns 0 from rfl]
    refine z4d (β := Pt) (f := .int) e3 (fun _ p => (-4 ≤ p.1 ∧ p.1 ≤ 4) ∧ (-4 ≤ p.2.1 ∧ p.2.1 ≤ 4) ∧ 1 ≤ p.2.2 ∧ p.2.2 ≤ 3) (fun xs => xs.length ≤ 4) (fun xs h => by omega) (fun R r => ?_) (fun xs hxs n hn G1 c3 A aa => ?_) fun xs hxs ys hy hp c' p hpn => ?_
    · simp_arith only [zk6]
      refine zb6 (by decide) hl fun v v0 v1 => ⟨⟨by omega, by omega⟩, ?_⟩
      exact r _ _ (by rw [zhk]; omega)
    · simp_arith only [true_and]
      refine zb6 (by decide) hl fun x x0 x1 => ?_
      simp_arith only [true_and]
      refine zb6 (by decide) hl fun y y0 y1 => ?_
      simp_arith only [true_and]
      refine zb6 (by decide) hl fun z z0 z1 => ?_
      simp_arith only [true_and]
      exact aa (x - 4, y - 4, 1 + z) _ ⟨⟨by dsimp only; omega, by dsimp only; omega⟩, ⟨by dsimp only; omega, by dsimp only; omega⟩, by dsimp only; omega, by dsimp only; omega⟩
    · obtain ⟨e1, hap⟩ := zxo (o := .lst (ys.map e3)) hpn
      have hgp := zv0 hap hpn
      rw [e1]
      simp_arith only [zmi hap, z3y hap hgp, DO.tree]
      refine zrc (f := e3) (xs := ys) rfl zjp al3 (st3 _) z03 fun w hw => ?_
      simp_arith only [zt, ze1 hw, DO.tree]
      have hcs : srtT e3 (srtT e3 ys) = srtT e3 ys := zsg (g := k3) (fun a b => z3p a b) zzf (zio e3 ys)
      have hcl : (srtT e3 ys).length ≤ 4 := by rw [(zio e3 ys).length_eq]; omega
      have hcb : ∀ p ∈ srtT e3 ys, (-4 ≤ p.1 ∧ p.1 ≤ 4) ∧ (-4 ≤ p.2.1 ∧ p.2.1 ≤ 4) ∧ 1 ≤ p.2.2 ∧ p.2.2 ≤ 3 := fun p hm => by
        obtain ⟨_, _, h⟩ := hp p ((zio e3 ys).mem_iff.mp hm)
        exact h
      generalize srtT e3 ys = cs at *
      refine zb6 (by decide) hl fun n0 n00 n01 => ?_
      simp_arith only [true_and]
      refine zb6 (by decide) hl fun n1 n10 n11 => ?_
      simp_arith only [true_and]
      refine zb6 (by decide) hl fun n2 n20 n21 => ?_
      refine zb6 (by decide) hl fun n3 n30 n31 => ?_
      refine zb6 (by decide) hl fun n4 n40 n41 => ?_
      refine ⟨a, ns, _, _, _, turL.map (eT .int), rfl, rfl, hl, .inl rfl, by decide, fun d hd => ?_⟩
      obtain ⟨tu, htu, rfl⟩ := List.mem_map.mp hd
      refine zb6 (by decide) hl fun x x0 x1 => ?_
      simp_arith only [true_and]
      refine zb6 (by decide) hl fun y y0 y1 => ?_
      simp_arith only [true_and]
      refine zb6 (by decide) hl fun u u0 u1 => ?_
      simp_arith only [true_and]
      refine zb6 (by decide) hl fun v v0 v1 => ?_
      simp_arith only [true_and]
      have S : SkL ⟨cs, ⟨1 + n0, 1 + n1, n2, n3, n4⟩, tu, x - 2, x - 2 + u, y - 2, y - 2 + v⟩ := by
        refine ⟨hcl, hcb, hcs, ?_, ?_, ?_, ?_, ?_, ?_, ?_, ?_, ?_, ?_⟩ <;> dsimp only
        · omega
        · omega
        · omega
        · omega
        · omega
        · unfold turL at htu
          simpa only [List.mem_cons, List.not_mem_nil, or_false] using htu
        · omega
        · omega
        · omega
        · omega
      have er : srtT e3 cs.reverse = cs := (zsg (g := k3) (fun a b => z3p a b) zzf (List.reverse_perm cs)).trans hcs
      simp_arith only [zfl, z1l]
      intro x1' hx1
      refine ⟨x1', cs.reverse, rfl, (by rw [← List.map_reverse]; rfl), zt, by rw [List.length_reverse]; omega, fun p hp => S.pts p (List.mem_reverse.mp hp), ?_⟩
      rw [ze5, er]
      refine ⟨rfl, ?_⟩
      simp_arith only [zt, ze1 hx1, DO.tree, zfl]
      refine zie (i := 0) (by decide) rfl ?_
      refine zie (i := 1) (by decide) rfl ?_
      refine zie (i := 2) (by decide) rfl ?_
      refine zie (i := 3) (by decide) rfl ?_
      refine zie (i := 4) (by decide) rfl ?_
      intro x2 hx2
      refine ⟨x2, ⟨1 + n0, 1 + n1, n2, n3, n4⟩, rfl, zt, S.cam, ?_⟩
      rw [ze5]
      refine ⟨rfl, ?_⟩
      simp_arith only [zt, ze1 hx2, DO.tree, zfl]
      intro x3 hx3
      refine ⟨x3, ⟨cs, ⟨1 + n0, 1 + n1, n2, n3, n4⟩, tu, x - 2, x - 2 + u, y - 2, y - 2 + v⟩, rfl, zt, S.si, ?_⟩
      rw [ze5]
      refine ⟨rfl, ?_⟩
      simp_arith only [zt, ze1 hx3, DO.tree]
      refine a_ok (s := ⟨cs, ⟨1 + n0, 1 + n1, n2, n3, n4⟩, tu, x - 2, x - 2 + u, y - 2, y - 2 + v⟩) ?_
      simp_arith only [stL]
      refine b_ok (s := ⟨cs, ⟨1 + n0, 1 + n1, n2, n3, n4⟩, tu, x - 2, x - 2 + u, y - 2, y - 2 + v⟩) ?_
      simp_arith only [stL]
      refine z4g (s := ⟨cs, ⟨1 + n0, 1 + n1, n2, n3, n4⟩, tu, x - 2, x - 2 + u, y - 2, y - 2 + v⟩) S fun o12 o13 => ?_
      simp_arith only [stL]
      refine z5i (s := ⟨cs, ⟨1 + n0, 1 + n1, n2, n3, n4⟩, tu, x - 2, x - 2 + u, y - 2, y - 2 + v⟩) S ?_
      simp_arith only [stL]
      refine ⟨a, ns, _, _, rfl, rfl, hl, fun rws c2 hrl hrp => ?_⟩
      simp_arith only [z2u]
      refine zkk (xs := rws) (f := rawD) (fun r => ddD r.1) (by omega) (fun R r => ?_) (fun r hr G1 A kk => ?_) fun w1 hw1 => ?_
      · simp_arith only [zgr]
        exact r
      · simp_arith only [true_and]
        exact ⟨r.1, r.2, rfl, hrp r hr, kk⟩
      · simp_arith only [zt, ze1 hw1, DO.tree]
        rw [zl1 (ds := rws.map fun r => ddD r.1) rfl]
        refine zb6 (by decide) hl fun f1 f10 f11 => ?_
        simp_arith only [true_and]
        refine zb6 (by decide) hl fun f2 f20 f21 => ?_
        simp_arith only [true_and]
        refine zb6 (by decide) hl fun rm rm0 rm1 => ?_
        have em : (rws.map fun r => ddD r.1) = (rws.map (·.1)).map ddD := by rw [List.map_map]; rfl
        rw [em]
        have ok : ∀ m, 0 ≤ m → m ≤ 4 → OkCr (znv ⟨cs, ⟨1 + n0, 1 + n1, n2, n3, n4⟩, tu, x - 2, x - 2 + u, y - 2, y - 2 + v⟩ (f1 - 2, f2 - 2) m (rws.map (·.1))) := fun m m0 m1 => by
          refine ⟨by simp [znv], by simp [znv], ⟨⟨by show -1000 ≤ f1 - 2; omega, by show f1 - 2 ≤ 1000; omega⟩, by show -1000 ≤ f2 - 2; omega, by show f2 - 2 ≤ 1000; omega⟩, ⟨m0, by show m ≤ 1000; omega⟩, ?_, fun d hd => ?_, fun f b hd => ?_⟩
          · show (rws.map (·.1)).length ≤ 1000
            rw [List.length_map]
            omega
          · obtain ⟨r, hr, rfl⟩ := List.mem_map.mp hd
            exact (hrp r hr).mk4.ok
          · obtain ⟨r, hr, e⟩ := List.mem_map.mp hd
            have := (hrp r hr).look f b e
            show b < ((1 : Nat) : Int)
            omega
        simp_arith only [zfl]
        intro x4 hx4
        refine ⟨x4, znv ⟨cs, ⟨1 + n0, 1 + n1, n2, n3, n4⟩, tu, x - 2, x - 2 + u, y - 2, y - 2 + v⟩ (f1 - 2, f2 - 2) rm (rws.map (·.1)), rfl, zt, ok rm rm0 (by omega), ?_⟩
        rw [ze5]
        refine ⟨rfl, ?_⟩
        simp_arith only [zt, ze1 hx4]
        have ec : ∀ c : Cr, D.nd (Kd.ins CA.Craft (List.map (fun x => x.fst) (zv9 c))) (List.map (fun x => x.snd) (zv9 c)) = crD c := fun c => rfl
        rw [ec]
        rw [show D.nd Kd.tup [D.int (f1 - 2), D.int (f2 - 2)] = e2 (f1 - 2, f2 - 2) from rfl, show D.nd Kd.tup (List.map ddD (rws.map (·.1))) = eT ddD (rws.map (·.1)) from rfl]
        have z := fun k => z5b (ns := ns) (a := a) (F := { nx := dSeq zo5 zko { nx := fun x G' => Q D.non G', rt := Q }, rt := Q }) (G := DL.Gw G a ns (c2 + 1 + 1 + 1)) (s := ⟨cs, ⟨1 + n0, 1 + n1, n2, n3, n4⟩, tu, x - 2, x - 2 + u, y - 2, y - 2 + v⟩) (foot := (f1 - 2, f2 - 2)) (room := rm) (ds := rws.map (·.1)) (o2 := some (eL e3 cs)) (o3 := some (numD ⟨1 + n0, 1 + n1, n2, n3, n4⟩)) (o4 := some (eT .int tu)) (o5 := some (.int (x - 2))) (o6 := some (.int (y - 2))) (o7 := some (e4 (x - 2, x - 2 + u, y - 2, y - 2 + v))) (o8 := some (gD cs)) (o9 := some (cD ⟨1 + n0, 1 + n1, n2, n3, n4⟩)) (o11 := some (eL e3 (zlk ⟨cs, ⟨1 + n0, 1 + n1, n2, n3, n4⟩, tu, x - 2, x - 2 + u, y - 2, y - 2 + v⟩))) (o12 := o12) (o13 := o13) (o14 := some (.nd .lst (rws.map rawD))) S k
        refine z ?_
        have z2 := fun k => z4y (ns := ns) (a := a) (F := { nx := zko { nx := fun x G' => Q D.non G', rt := Q }, rt := Q }) (G := DL.Gw G a ns (c2 + 1 + 1 + 1)) (c := (znv ⟨cs, ⟨1 + n0, 1 + n1, n2, n3, n4⟩, tu, x - 2, x - 2 + u, y - 2, y - 2 + v⟩ (f1 - 2, f2 - 2) rm (rws.map (·.1)))) (rws := rws) (o2 := some (eL e3 cs)) (o3 := some (numD ⟨1 + n0, 1 + n1, n2, n3, n4⟩)) (o4 := some (eT .int tu)) (o5 := some (.int (x - 2))) (o6 := some (.int (y - 2))) (o7 := some (e4 (x - 2, x - 2 + u, y - 2, y - 2 + v))) (o8 := some (gD cs)) (o9 := some (cD ⟨1 + n0, 1 + n1, n2, n3, n4⟩)) (o10 := some (sD ⟨cs, ⟨1 + n0, 1 + n1, n2, n3, n4⟩, tu, x - 2, x - 2 + u, y - 2, y - 2 + v⟩)) (o11 := some (eL e3 (zlk ⟨cs, ⟨1 + n0, 1 + n1, n2, n3, n4⟩, tu, x - 2, x - 2 + u, y - 2, y - 2 + v⟩))) (o12 := o12) (o13 := o13) (o15 := some (eT ddD (rws.map (·.1)))) (o16 := some (e2 (f1 - 2, f2 - 2))) (o17 := some (.int rm)) rfl hrp k
        refine z2 fun o19 o20 o21 o22 o23 => ?_
        have os := fun k => z4s (ns := ns) (a := a) (F := { nx := fun x G' => Q D.non G', rt := Q }) (G := DL.Gw G a ns (c2 + 1 + 1 + 1)) (s := ⟨cs, ⟨1 + n0, 1 + n1, n2, n3, n4⟩, tu, x - 2, x - 2 + u, y - 2, y - 2 + v⟩) (foot := (f1 - 2, f2 - 2)) (room := rm) (ds := rws.map (·.1)) (o3 := some (numD ⟨1 + n0, 1 + n1, n2, n3, n4⟩)) (o4 := some (eT .int tu)) (o5 := some (.int (x - 2))) (o6 := some (.int (y - 2))) (o7 := some (e4 (x - 2, x - 2 + u, y - 2, y - 2 + v))) (o9 := some (cD ⟨1 + n0, 1 + n1, n2, n3, n4⟩)) (o11 := some (eL e3 (zlk ⟨cs, ⟨1 + n0, 1 + n1, n2, n3, n4⟩, tu, x - 2, x - 2 + u, y - 2, y - 2 + v⟩))) (o12 := o12) (o13 := o13) (o14 := some (.nd .lst (rws.map rawD))) (o19 := o19) (o20 := o20) (o21 := o21) (o22 := o22) (o23 := o23) S (ok rm rm0 (by omega)) (ok (rm + 1) (by omega) (by omega)) k
        exact os (q _)
end M
end
namespace M
open PySem PySem.Spec PyProof.Rows L2 DL
variable [CA]
theorem zvu : FnScope zer ["thing", "low", "high"] (defScope zc3) := ⟨rfl, rfl, rfl, by decide +kernel, rfl, by decide +kernel, by decide +kernel⟩
theorem zvd : FnScope zg9 ["thing", "low", "high"] (defScope zc9) := ⟨rfl, rfl, rfl, by decide +kernel, rfl, by decide +kernel, by decide +kernel⟩
theorem zfh : FnScope zeu ["self", "craters"] (defScope zaj) := ⟨rfl, rfl, rfl, by decide +kernel, rfl, by decide +kernel, by decide +kernel⟩
theorem zdg : FnScope zdt ["self", "width", "height", "error", "false", "lost"] (defScope zah) := ⟨rfl, rfl, rfl, by decide +kernel, rfl, by decide +kernel, by decide +kernel⟩
theorem zlr : FnScope zi5 ["thing"] (defScope zcu) := ⟨rfl, rfl, rfl, by decide +kernel, rfl, by decide +kernel, by decide +kernel⟩
theorem zte : FnScope zep ["kind", "aim"] (defScope zcf) := ⟨rfl, rfl, rfl, by decide +kernel, rfl, by decide +kernel, by decide +kernel⟩
theorem zgu : FnScope zfp ["self", "kind", "fuel", "aim", "slips"] (defScope zap) := ⟨rfl, rfl, rfl, by decide +kernel, rfl, by decide +kernel, by decide +kernel⟩
theorem z2a : FnScope zwk ["fuel", "aim"] (defScope zj9) := ⟨rfl, rfl, rfl, by decide +kernel, rfl, by decide +kernel, by decide +kernel⟩
theorem zb3 : FnScope zd5 ["self", "ground", "camera", "turns", "area"] (defScope zal) := ⟨rfl, rfl, rfl, by decide +kernel, rfl, by decide +kernel, by decide +kernel⟩
theorem zop : FnScope zfg ["self", "other"] (defScope zav) := ⟨rfl, rfl, rfl, by decide +kernel, rfl, by decide +kernel, by decide +kernel⟩
theorem zeb : FnScope zdw ["skies"] (defScope zad) := ⟨rfl, rfl, rfl, by decide +kernel, rfl, by decide +kernel, by decide +kernel⟩
theorem zbu : FnScope zc8 ["self", "skies", "foot", "room", "deeds"] (defScope z9) := ⟨rfl, rfl, rfl, by decide +kernel, rfl, by decide +kernel, by decide +kernel⟩
theorem zcm : FnScope zg8 ["script", "index"] (defScope zbb) := ⟨rfl, rfl, rfl, by decide +kernel, rfl, by decide +kernel, by decide +kernel⟩
theorem ztv : FnScope zju ["draw", "many"] (defScope zce) := ⟨rfl, rfl, rfl, by decide +kernel, rfl, by decide +kernel, by decide +kernel⟩
theorem ztq : FnScope zjg ["draw", "items"] (defScope zcc) := ⟨rfl, rfl, rfl, by decide +kernel, rfl, by decide +kernel, by decide +kernel⟩
theorem z2g : FnScope zw0 ["fuel", "aim"] (defScope zj1) := ⟨rfl, rfl, rfl, by decide +kernel, rfl, by decide +kernel, by decide +kernel⟩
theorem z1n : FnScope zw1 ["fuel", "aim", "slips"] (defScope zkh) := ⟨rfl, rfl, rfl, by decide +kernel, rfl, by decide +kernel, by decide +kernel⟩
theorem z26 : FnScope zwr ["fuel", "slips"] (defScope zkg) := ⟨rfl, rfl, rfl, by decide +kernel, rfl, by decide +kernel, by decide +kernel⟩
theorem z2l : FnScope zv3 ["fuel"] (defScope zj4) := ⟨rfl, rfl, rfl, by decide +kernel, rfl, by decide +kernel, by decide +kernel⟩
theorem zd3 : FnScope zfr ["self"] (defScope zaw) := ⟨rfl, rfl, rfl, by decide +kernel, rfl, by decide +kernel, by decide +kernel⟩
theorem zqt : FnScope zg1 ["self"] (defScope zbc) := ⟨rfl, rfl, rfl, by decide +kernel, rfl, by decide +kernel, by decide +kernel⟩
theorem zox : FnScope zfq ["self", "other"] (defScope zau) := ⟨rfl, rfl, rfl, by decide +kernel, rfl, by decide +kernel, by decide +kernel⟩
theorem zsb : FnScope zif ["self", "other"] (defScope zbs) := ⟨rfl, rfl, rfl, by decide +kernel, rfl, by decide +kernel, by decide +kernel⟩
theorem ztw : FnScope zjm ["self"] (defScope zcd) := ⟨rfl, rfl, rfl, by decide +kernel, rfl, by decide +kernel, by decide +kernel⟩
theorem zqh : FnScope zg6 ["self", "other"] (defScope za8) := ⟨rfl, rfl, rfl, by decide +kernel, rfl, by decide +kernel, by decide +kernel⟩
theorem zsx : FnScope zh4 ["self"] (defScope zbq) := ⟨rfl, rfl, rfl, by decide +kernel, rfl, by decide +kernel, by decide +kernel⟩
theorem zpo : FnScope zgh ["self", "other"] (defScope za1) := ⟨rfl, rfl, rfl, by decide +kernel, rfl, by decide +kernel, by decide +kernel⟩
theorem zf8 : FnScope zk5 ["draw"] (defScope zc7) := ⟨rfl, rfl, rfl, by decide +kernel, rfl, by decide +kernel, by decide +kernel⟩
theorem zgm : FnScope zej ["raw"] (defScope zcb) := ⟨rfl, rfl, rfl, by decide +kernel, rfl, by decide +kernel, by decide +kernel⟩
theorem zds : FnScope zu3 ["script"] (defScope zkj) := ⟨rfl, rfl, rfl, by decide +kernel, rfl, by decide +kernel, by decide +kernel⟩
theorem z1z : bootBuiltins ("bool" : Str) = some (.type "bool") := by first | rfl | decide +kernel
theorem zao : bootBuiltins ("isinstance" : Str) = some (.builtin "isinstance") := by first | rfl | decide +kernel
theorem zpz : bootBuiltins ("int" : Str) = some (.type "int") := by first | rfl | decide +kernel
theorem zmu : bootBuiltins ("len" : Str) = some (.builtin "len") := by first | rfl | decide +kernel
theorem zed : bootBuiltins ("tuple" : Str) = some (.type "tuple") := by first | rfl | decide +kernel
theorem zpb : bootBuiltins ("sorted" : Str) = some (.builtin "sorted") := by first | rfl | decide +kernel
theorem zoc : bootBuiltins ("all" : Str) = some (.builtin "all") := by first | rfl | decide +kernel
theorem z32 : bootBuiltins ("any" : Str) = some (.builtin "any") := by first | rfl | decide +kernel
structure Txt (K : PySem.W.Frag) (mg : Str → Option Value) where
  zaz : Addr
  za6 : FuncData
  zc5 : Fun K "is_whole" "is_whole" zc3 zaz za6
  zdq : mg "is_whole" = some (.ref zaz)
  zcy : Binds K za6 ["thing", "low", "high"] []
  ze8 : Addr
  zhb : FuncData
  zqy : Fun K "is_point" "is_point" zc9 ze8 zhb
  zw3 : mg "is_point" = some (.ref ze8)
  zvv : Binds K zhb ["thing", "low", "high"] []
  zbh : Addr
  zcs : FuncData
  znk : Fun K "__init__" "Ground.__init__" zaj zbh zcs
  zh1 : Binds K zcs ["self", "craters"] []
  zbi : Addr
  zcw : FuncData
  znf : Fun K "__init__" "Camera.__init__" zah zbi zcw
  zm8 : Binds K zcw ["self", "width", "height", "error", "false", "lost"] []
  zc6 : Addr
  zd7 : FuncData
  zld : Fun K "is_shift" "is_shift" zcu zc6 zd7
  zng : mg "is_shift" = some (.ref zc6)
  zl6 : Binds K zd7 ["thing"] []
  zeh : Addr
  zga : FuncData
  zpr : Fun K "wrong_aim" "wrong_aim" zcf zeh zga
  zvp : mg "wrong_aim" = some (.ref zeh)
  ztt : Binds K zga ["kind", "aim"] []
  z7 : Addr
  zac : FuncData
  zqb : Fun K "__init__" "Deed.__init__" zap z7 zac
  zb9 : Binds K zac ["self", "kind", "fuel", "aim", "slips"] []
  zn5 : Addr
  zrb : FuncData
  z02 : Fun K "turn" "turn" zj9 zn5 zrb
  z3d : mg "turn" = some (.ref zn5)
  z16 : Binds K zrb ["fuel", "aim"] []
  zcl : Addr
  zd4 : FuncData
  zqu : Fun K "__init__" "Sky.__init__" zal zcl zd4
  zpj : Binds K zd4 ["self", "ground", "camera", "turns", "area"] []
  za7 : Addr
  zb1 : FuncData
  zpc : Fun K "__eq__" "Ground.__eq__" zav za7 zb1
  zgv : Binds K zb1 ["self", "other"] []
  zbf : Addr
  zct : FuncData
  zir : Fun K "have_one_ground" "have_one_ground" zad zbf zct
  zny : mg "have_one_ground" = some (.ref zbf)
  zm9 : Binds K zct ["skies"] []
  zbr : Addr
  zc4 : FuncData
  zom : Fun K "__init__" "Craft.__init__" z9 zbr zc4
  zf4 : Binds K zc4 ["self", "skies", "foot", "room", "deeds"] []
  zdb : Addr
  zev : FuncData
  znc : Fun K "_law_number" "_law_number" zbb zdb zev
  zrz : mg "_law_number" = some (.ref zdb)
  zqo : Binds K zev ["script", "index"] []
  zca : Addr
  zdn : FuncData
  zae : Fun K "_law_take" "_law_take" zce zca zdn
  zag : mg "_law_take" = some (.ref zca)
  zaa : Binds K zdn ["draw", "many"] []
  zdi : Addr
  zee : FuncData
  zjc : Fun K "_law_pick" "_law_pick" zcc zdi zee
  zlz : mg "_law_pick" = some (.ref zdi)
  zku : Binds K zee ["draw", "items"] []
  zn9 : Addr
  zra : FuncData
  z01 : Fun K "look" "look" zj1 zn9 zra
  z30 : mg "look" = some (.ref zn9)
  z1u : Binds K zra ["fuel", "aim"] []
  zob : Addr
  zq0 : FuncData
  z1h : Fun K "step" "step" zkh zob zq0
  z28 : mg "step" = some (.ref zob)
  z2f : Binds K zq0 ["fuel", "aim", "slips"] []
  zn8 : Addr
  zq3 : FuncData
  z1j : Fun K "land" "land" zkg zn8 zq3
  z3m : mg "land" = some (.ref zn8)
  z2z : Binds K zq3 ["fuel", "slips"] []
  zn3 : Addr
  zq2 : FuncData
  z08 : Fun K "away" "away" zj4 zn3 zq2
  z3k : mg "away" = some (.ref zn3)
  z1m : Binds K zq2 ["fuel"] []
  zb2 : Addr
  zdv : FuncData
  zpi : Fun K "standings" "Sky.standings" zaw zb2 zdv
  zo1 : Binds K zdv ["self"] []
  zbz : Addr
  zdf : FuncData
  zr7 : Fun K "told" "Camera.told" zbc zbz zdf
  zge : Binds K zdf ["self"] []
  zb5 : Addr
  zdr : FuncData
  zpx : Fun K "__eq__" "Camera.__eq__" zau zb5 zdr
  zoh : Binds K zdr ["self", "other"] []
  zck : Addr
  zdx : FuncData
  ztz : Fun K "__eq__" "Sky.__eq__" zbs zck zdx
  zmx : Binds K zdx ["self", "other"] []
  zei : Addr
  zf7 : FuncData
  zu9 : Fun K "told" "Deed.told" zcd zei zf7
  zod : Binds K zf7 ["self"] []
  zb0 : Addr
  zdh : FuncData
  zrp : Fun K "__eq__" "Deed.__eq__" za8 zb0 zdh
  zgd : Binds K zdh ["self", "other"] []
  zdz : Addr
  zfc : FuncData
  zt6 : Fun K "told" "Craft.told" zbq zdz zfc
  zm7 : Binds K zfc ["self"] []
  zcn : Addr
  zd6 : FuncData
  zqw : Fun K "__eq__" "Craft.__eq__" za1 zcn zd6
  zky : Binds K zd6 ["self", "other"] []
  zfb : Addr
  zha : FuncData
  zq6 : Fun K "_law_raw" "_law_raw" zc7 zfb zha
  zw7 : mg "_law_raw" = some (.ref zfb)
  zu5 : Binds K zha ["draw"] []
  zeq : Addr
  zf6 : FuncData
  zps : Fun K "_law_made" "_law_made" zcb zeq zf6
  zut : mg "_law_made" = some (.ref zeq)
  zs1 : Binds K zf6 ["raw"] []
  zxl : Addr
  zzu : FuncData
  z46 : Fun K "law" "law" zkj zxl zzu
  m_law : mg "law" = some (.ref zxl)
  bi_law : Binds K zzu ["script"] []
  z3c : mg "bool" = none
  zax : mg "isinstance" = none
  zvo : mg "int" = none
  zsv : mg "len" = none
  zfn : mg "tuple" = none
  zuy : mg "enumerate" = none
  zo8 : mg "sorted" = none
  ztx : mg "all" = none
  z4w : mg "set" = none
  z4l : mg "zip" = none
  z5l : mg "any" = none
  zl0 : mg "range" = none
  isi : z2t K isT
  zvl : ∃ t, mg "MOST_SIZE" = some (.int 99 t)
  zh2 : ∃ t, mg "MOST_PLACE" = some (.int 1000000 t)
  zh5 : ∃ t, mg "MOST_COUNT" = some (.int 100 t)
  zcv : NoAttr K CA.Ground "craters"
  ziy : Cls K CA.Ground
  zp4 : ∃ t, mg "MOST_SIDE" = some (.int 1000 t)
  zhs : NoAttr K CA.Camera "width"
  zbj : Cls K CA.Camera
  zgt : NoAttr K CA.Camera "height"
  zhg : NoAttr K CA.Camera "error"
  zhx : NoAttr K CA.Camera "false"
  zii : NoAttr K CA.Camera "lost"
  zwb : ∃ t, mg "MOST" = some (.int 1000 t)
  z1x : GTup K mg "KINDS" ["step", "turn", "look", "land", "away"]
  zh0 : NoAttr K CA.Deed "kind"
  zex : Cls K CA.Deed
  zkt : NoAttr K CA.Deed "fuel"
  zjd : NoAttr K CA.Deed "aim"
  zjs : NoAttr K CA.Deed "slips"
  zjr : mg "Deed" = some (.ref CA.Deed)
  zl9 : Mk K CA.Deed z7
  zoy : ∃ t, mg "MOST_STANDINGS" = some (.int 40000 t)
  zet : NoAttr K CA.Sky "ground"
  zdo : Cls K CA.Sky
  zg7 : NoAttr K CA.Sky "camera"
  zeg : NoAttr K CA.Sky "turns"
  zdj : NoAttr K CA.Sky "area"
  zpd : mg "Ground" = some (.ref CA.Ground)
  zgp : Meth K CA.Ground "__eq__" za7
  zya : mg "Sky" = some (.ref CA.Sky)
  zvm : ∃ t, mg "MOST_ROOM" = some (.int 1000 t)
  zim : NoAttr K CA.Craft "skies"
  zd2 : Cls K CA.Craft
  zjl : NoAttr K CA.Craft "foot"
  zjv : NoAttr K CA.Craft "room"
  zgf : NoAttr K CA.Craft "deeds"
  zgj : Meth K CA.Camera "told" zbz
  zs7 : mg "Camera" = some (.ref CA.Camera)
  zn6 : Meth K CA.Deed "told" zei
  zmk : Meth K CA.Sky "__eq__" zck
  zgi : Meth K CA.Deed "__eq__" zb0
  zmz : Meth K CA.Craft "told" zdz
  zo9 : mg "Craft" = some (.ref CA.Craft)
  ztu : Mk K CA.Ground zbh
  zy6 : Mk K CA.Camera zbi
  z3i : Mk K CA.Sky zcl
  zog : Meth K CA.Camera "__eq__" zb5
  zy8 : NeC K CA.Camera
  zt3 : NeC K CA.Ground
  zot : Meth K CA.Sky "standings" zb2
  zrh : Mk K CA.Craft zbr
  z2d : NeC K CA.Deed
  zkq : Meth K CA.Craft "__eq__" zcn
  z0u : NeC K CA.Craft
section
variable {P : Program} {w : World} {K : PySem.W.Frag} {mg : Str → Option Value} {base : Heap}
theorem zvk [Bs] (T : Txt K mg) (cdv : Value) (A : Around) (outer : List Env) (s : Shared) (H : Hp) (E : XK) (hr : Room 0 (A.deeper (envOfC "is_whole" (defScope zc3) s.heap.objs.size T.zaz cdv))) :
    PSsD (cxOf CX0 P w K mg base zer "is_whole" (defScope zc3) T.zaz cdv A outer s H E).nox (defBody zc3) ze9 :=
  (zo (zat (zf2 (z8 (zg0 T.isi) T.zax zao (zd (zh 0) (zd (zg3 T.zvo zpz) zj))) (zf2 (zss (z8 (zg0 T.isi) T.zax zao (zd (zh 0) (zd (zg3 T.z3c z1z) zj)))) (zjh (zze (z3r hr.units) (z3r hr.units) (zh 1) (zh 0) (zh 2)))))))
theorem zu6 (T : Txt K mg) : FnD P w K mg base 1 T.zaz T.za6 ["thing", "low", "high"] zz :=
  fn_d T.zc5 zvu zt8 (zvk T) zuj
theorem zvc [Bs] (T : Txt K mg) (zr : FnD P w K mg base 1 T.zaz T.za6 ["thing", "low", "high"] zz) (cdv : Value) (A : Around) (outer : List Env) (s : Shared) (H : Hp) (E : XK) (hr : Room 1 (A.deeper (envOfC "is_point" (defScope zc9) s.heap.objs.size T.ze8 cdv))) :
    PSsD (cxOf CX0 P w K mg base zg9 "is_point" (defScope zc9) T.ze8 cdv A outer s H E).nox (defBody zc9) zit :=
  (zm (zb7 (zmv (zfa (zd0 (zdk (z8 (zg0 T.isi) T.zax zao (zd (zh 0) (zd (zg3 T.zfn zed) zj))))) (zf3 (zaq (znj hr.units) (z8 zna T.zsv zmu (zd (zh 0) zj)) zl (nomark _)))))
      (zo (zat zn4))
      zam)
      (zo (zat (zf2 (zu zr (hr.mono (by decide)) T.zdq T.zc5.kp T.zcy (zd (zda (ixd hr.units) (zh 0) zl) (zd (zh 1) (zd (zh 2) zj)))) (zf2 (zu zr (hr.mono (by decide)) T.zdq T.zc5.kp T.zcy (zd (zda (ixd hr.units) (zh 0) zl) (zd (zh 1) (zd (zh 2) zj)))) (zjh (zu zr (hr.mono (by decide)) T.zdq T.zc5.kp T.zcy (zd (zda (ixd hr.units) (zh 0) zl) (zd zl (zd (zdc (Classical.choose_spec T.zvl)) zj))))))))))
theorem zup (T : Txt K mg) (zr : FnD P w K mg base 1 T.zaz T.za6 ["thing", "low", "high"] zz) : FnD P w K mg base 2 T.ze8 T.zhb ["thing", "low", "high"] ze2 :=
  fn_d T.zqy zvd ztn (zvc T zr) zud
theorem znb [Bs] (T : Txt K mg) (zix : FnD P w K mg base 2 T.ze8 T.zhb ["thing", "low", "high"] ze2) (cdv : Value) (A : Around) (outer : List Env) (s : Shared) (H : Hp) (E : XK) (hr : Room 2 (A.deeper (envOfC "Ground.__init__" (defScope zaj) s.heap.objs.size T.zbh cdv))) :
    PSsD (cxOf CX0 P w K mg base zeu "Ground.__init__" (defScope zaj) T.zbh cdv A outer s H E).nox (defBody zaj) zfx :=
  (zm (zij PassesOwn.never rfl (zzw T.zuy (zd (zh 1) zj)) (zmf rfl (zbg (zaf (i := 2) zfh.nd rfl (Or.inl rfl)) (zbg (zaf (i := 3) zfh.nd rfl (Or.inl rfl)) zji)))
      (zo (zb7 (zmv (zfa (zaq (z4t hr.units) (zh 2) (zdc (Classical.choose_spec T.zh5)) (nomark _)) (zf3 (zd0 (zdk (zu zix (hr.mono (by decide)) T.zw3 T.zqy.kp T.zvv (zd (zh 3) (zd (zar zjb zl (zdc (Classical.choose_spec T.zh2))) (zd (zdc (Classical.choose_spec T.zh2)) zj)))))))))
      (zo zbn)
      zam)))
      (zo (zea T.ziy T.zcv (zh 0) (zcq zjq T.zfn zed (zd (zcz (z8 (zt5 hr.units) T.zo8 zpb (zd (zh 1) zj))) zj)))))
theorem zmn (T : Txt K mg) (zix : FnD P w K mg base 2 T.ze8 T.zhb ["thing", "low", "high"] ze2) : FnD P w K mg base 3 T.zbh T.zcs ["self", "craters"] za5 :=
  fn_d T.znk zfh zmd (znb T zix) zmb
theorem zmp [Bs] (T : Txt K mg) (zr : FnD P w K mg base 1 T.zaz T.za6 ["thing", "low", "high"] zz) (cdv : Value) (A : Around) (outer : List Env) (s : Shared) (H : Hp) (E : XK) (hr : Room 1 (A.deeper (envOfC "Camera.__init__" (defScope zah) s.heap.objs.size T.zbi cdv))) :
    PSsD (cxOf CX0 P w K mg base zdt "Camera.__init__" (defScope zah) T.zbi cdv A outer s H E).nox (defBody zah) zi9 :=
  (zm (zij PassesOwn.never rfl (zgw (zv (zd (zv (zd zbe (zd (zh 1) (zd zl (zd (zdc (Classical.choose_spec T.zp4)) zj))))) (zd (zv (zd zbe (zd (zh 2) (zd zl (zd (zdc (Classical.choose_spec T.zp4)) zj))))) (zd (zv (zd zbe (zd (zh 3) (zd zl (zd (zdc (Classical.choose_spec T.zh5)) zj))))) (zd (zv (zd zbe (zd (zh 4) (zd zl (zd (zdc (Classical.choose_spec T.zh5)) zj))))) (zd (zv (zd zbe (zd (zh 5) (zd zl (zd (zdc (Classical.choose_spec T.zh5)) zj))))) zj))))))) (zmf rfl (zbg (zaf (i := 6) zdg.nd rfl (Or.inl rfl)) (zbg (zaf (i := 7) zdg.nd rfl (Or.inl rfl)) (zbg (zaf (i := 8) zdg.nd rfl (Or.inl rfl)) (zbg (zaf (i := 9) zdg.nd rfl (Or.inl rfl)) zji)))))
      (zo (zb7 (zd0 (zdk (zu zr (hr.mono (by decide)) T.zdq T.zc5.kp T.zcy (zd (zh 7) (zd (zh 8) (zd (zh 9) zj))))))
      (zo zbn)
      zam)))
      (zm (zea T.zbj T.zhs (zh 0) (zh 1))
      (zm (zea T.zbj T.zgt (zh 0) (zh 2))
      (zm (zea T.zbj T.zhg (zh 0) (zh 3))
      (zm (zea T.zbj T.zhx (zh 0) (zh 4))
      (zo (zea T.zbj T.zii (zh 0) (zh 5))))))))
theorem zm2 (T : Txt K mg) (zr : FnD P w K mg base 1 T.zaz T.za6 ["thing", "low", "high"] zz) : FnD P w K mg base 2 T.zbi T.zcw ["self", "width", "height", "error", "false", "lost"] zbp :=
  fn_d T.znf zdg zlm (zmp T zr) zlw
theorem zu2 [Bs] (T : Txt K mg) (zr : FnD P w K mg base 1 T.zaz T.za6 ["thing", "low", "high"] zz) (cdv : Value) (A : Around) (outer : List Env) (s : Shared) (H : Hp) (E : XK) (hr : Room 1 (A.deeper (envOfC "is_shift" (defScope zcu) s.heap.objs.size T.zc6 cdv))) :
    PSsD (cxOf CX0 P w K mg base zi5 "is_shift" (defScope zcu) T.zc6 cdv A outer s H E).nox (defBody zcu) znr :=
  (zo (zat (zf2 (z8 (zg0 T.isi) T.zax zao (zd (zh 0) (zd (zg3 T.zfn zed) zj))) (zf2 (zfv (zk0 hr.units) (z8 zna T.zsv zmu (zd (zh 0) zj)) zl (nomark _)) (zjh (z8 (zoa rfl) T.ztx zoc (zd (zcz (zj2 (own := [("one", 1)]) rfl zlr.nd (zgw (zh 0)) (blkOk_by (N := zi5) (sc := defScope zcu) (by decide +kernel)) (fun _ _ _ _ _ => (zaf (i := 1) zlr.nd rfl (Or.inl rfl))) (fun _ _ _ _ _ => ze0) (fun _ _ _ _ _ => (zu zr (hr.mono (by decide)) T.zdq T.zc5.kp T.zcy (zd (zh 1) (zd (zx1 (zdc (Classical.choose_spec T.zwb))) (zd (zdc (Classical.choose_spec T.zwb)) zj))))))) zj)))))))
theorem zuo (T : Txt K mg) (zr : FnD P w K mg base 1 T.zaz T.za6 ["thing", "low", "high"] zz) : FnD P w K mg base 2 T.zc6 T.zd7 ["thing"] zbx :=
  fn_d T.zld zlr zue (zu2 T zr) zs4
theorem zts [Bs] (T : Txt K mg) (zby : FnD P w K mg base 2 T.zc6 T.zd7 ["thing"] zbx) (zr : FnD P w K mg base 1 T.zaz T.za6 ["thing", "low", "high"] zz) (cdv : Value) (A : Around) (outer : List Env) (s : Shared) (H : Hp) (E : XK) (hr : Room 2 (A.deeper (envOfC "wrong_aim" (defScope zcf) s.heap.objs.size T.zeh cdv))) :
    PSsD (cxOf CX0 P w K mg base zep "wrong_aim" (defScope zcf) T.zeh cdv A outer s H E).nox (defBody zcf) ze4 :=
  (zm (zb7 (zaq (zk0 hr.units) (zh 0) zbe (nomark _))
      (zo (zat (zss (zu zby (hr.mono (by decide)) T.zng T.zld.kp T.zl6 (zd (zh 1) zj)))))
      zam)
      (zm (zb7 (zaq (zk0 hr.units) (zh 0) zbe (nomark _))
      (zo (zat (zss (zu zr (hr.mono (by decide)) T.zdq T.zc5.kp T.zcy (zd (zh 1) (zd zl (zd zl zj)))))))
      zam)
      (zm (zb7 (zaq (zk0 hr.units) (zh 0) zbe (nomark _))
      (zo (zat (zss (zu zr (hr.mono (by decide)) T.zdq T.zc5.kp T.zcy (zd (zh 1) (zd zl (zd (zdc (Classical.choose_spec T.zwb)) zj)))))))
      zam)
      (zo (zat (zfv zzl (zh 1) zsf (nomark _)))))))
theorem zuf (T : Txt K mg) (zby : FnD P w K mg base 2 T.zc6 T.zd7 ["thing"] zbx) (zr : FnD P w K mg base 1 T.zaz T.za6 ["thing", "low", "high"] zz) : FnD P w K mg base 3 T.zeh T.zga ["kind", "aim"] zef :=
  fn_d T.zpr zte zr5 (zts T zby zr) zr6
theorem zol [Bs] (T : Txt K mg) (zby : FnD P w K mg base 2 T.zc6 T.zd7 ["thing"] zbx) (zr : FnD P w K mg base 1 T.zaz T.za6 ["thing", "low", "high"] zz) (zhj : FnD P w K mg base 3 T.zeh T.zga ["kind", "aim"] zef) (cdv : Value) (A : Around) (outer : List Env) (s : Shared) (H : Hp) (E : XK) (hr : Room 3 (A.deeper (envOfC "Deed.__init__" (defScope zap) s.heap.objs.size T.z7 cdv))) :
    PSsD (cxOf CX0 P w K mg base zfp "Deed.__init__" (defScope zap) T.z7 cdv A outer s H E).nox (defBody zap) zkn :=
  (zm (zb7 (zaq (z0d (have h := DL.Room.u65 hr; h)) (zh 1) (zx5 T.z1x) (by with_unfolding_all rfl))
      (zo zbn)
      zam)
      (zm (zb7 (zd0 (zdk (zu zr (hr.mono (by decide)) T.zdq T.zc5.kp T.zcy (zd (zh 2) (zd zl (zd (zdc (Classical.choose_spec T.zwb)) zj))))))
      (zo zbn)
      zam)
      (zm (zb7 (zdk (zu zhj (hr.mono (by decide)) T.zvp T.zpr.kp T.ztt (zd (zh 1) (zd (zh 3) zj))))
      (zo zbn)
      zam)
      (zm (zb7 (zmv (zfa (zd0 (zdk (z8 (zg0 T.isi) T.zax zao (zd (zh 4) (zd (zg3 T.zfn zed) zj))))) (zfa (zaq (zk0 hr.units) (zh 4) (zv zj) (nomark _)) (zf3 (zd0 (zdk (z8 (zoa rfl) T.ztx zoc (zd (zcz (zj2 (own := [("one", 5)]) rfl zgu.nd (zgw (zh 4)) (blkOk_by (N := zfp) (sc := defScope zap) (by decide +kernel)) (fun _ _ _ _ _ => (zaf (i := 5) zgu.nd rfl (Or.inl rfl))) (fun _ _ _ _ _ => ze0) (fun _ _ _ _ _ => (zu zby (hr.mono (by decide)) T.zng T.zld.kp T.zl6 (zd (zh 5) zj))))) zj))))))))
      (zo zbn)
      zam)
      (zm (zb7 (zmv (z2q (zaq (z3n (have h := DL.Room.u65 hr; h)) (zh 1) (zv (zd zbe (zd zbe (zd zbe zj)))) (by with_unfolding_all rfl)) (z0e (zaq (znj hr.units) (zh 4) (zv (zd (zv (zd zl (zd zl zj))) zj)) (nomark _)))))
      (zo zbn)
      zam)
      (zm (zea T.zex T.zh0 (zh 0) (zh 1))
      (zm (zea T.zex T.zkt (zh 0) (zh 2))
      (zm (zea T.zex T.zjd (zh 0) (zh 3))
      (zo (zea T.zex T.zjs (zh 0) (zcq zjq T.zfn zed (zd (zcz (zxe rfl (have h := DL.Room.u65 hr; h) T.zo8 T.z4w (zh 4))) zj))))))))))))
theorem zor (T : Txt K mg) (zby : FnD P w K mg base 2 T.zc6 T.zd7 ["thing"] zbx) (zr : FnD P w K mg base 1 T.zaz T.za6 ["thing", "low", "high"] zz) (zhj : FnD P w K mg base 3 T.zeh T.zga ["kind", "aim"] zef) : FnD P w K mg base 4 T.z7 T.zac ["self", "kind", "fuel", "aim", "slips"] zq :=
  fn_d T.zqb zgu znl (zol T zby zr zhj) znd
theorem z2w [Bs] (T : Txt K mg) (zn : FnD P w K mg base 4 T.z7 T.zac ["self", "kind", "fuel", "aim", "slips"] zq) (cdv : Value) (A : Around) (outer : List Env) (s : Shared) (H : Hp) (E : XK) (hr : Room 5 (A.deeper (envOfC "turn" (defScope zj9) s.heap.objs.size T.zn5 cdv))) :
    PSsD (cxOf CX0 P w K mg base zwk "turn" (defScope zj9) T.zn5 cdv A outer s H E).nox (defBody zj9) zys :=
  (zo (zat (zcz (zec T.zl9 zn (hr.mono (by decide)) T.zjr T.zb9 (zd zbe (zd (zh 0) (zd (zh 1) (zd (zv (zd (zv (zd zl (zd zl zj))) zj)) zj))))))))
theorem z1s (T : Txt K mg) (zn : FnD P w K mg base 4 T.z7 T.zac ["self", "kind", "fuel", "aim", "slips"] zq) : FnD P w K mg base 6 T.zn5 T.zrb ["fuel", "aim"] zlo :=
  fn_d T.z02 z2a z0o (z2w T zn) zzi
theorem zpq [Bs] (T : Txt K mg) (zr : FnD P w K mg base 1 T.zaz T.za6 ["thing", "low", "high"] zz) (cdv : Value) (A : Around) (outer : List Env) (s : Shared) (H : Hp) (E : XK) (hr : Room 1 (A.deeper (envOfC "Sky.__init__" (defScope zal) s.heap.objs.size T.zcl cdv))) :
    PSsD (cxOf CX0 P w K mg base zd5 "Sky.__init__" (defScope zal) T.zcl cdv A outer s H E).nox (defBody zal) zlj :=
  (zm (zb7 (zmv (zfa (zd0 (zdk (z8 (zg0 T.isi) T.zax zao (zd (zh 3) (zd (zg3 T.zfn zed) zj))))) (zfa (zaq (zk0 hr.units) (zh 3) (zv zj) (nomark _)) (zf3 (zd0 (zdk (z8 (zoa rfl) T.ztx zoc (zd (zcz (zj2 (own := [("turn", 5)]) rfl zb3.nd (zgw (zh 3)) (blkOk_by (N := zd5) (sc := defScope zal) (by decide +kernel)) (fun _ _ _ _ _ => (zaf (i := 5) zb3.nd rfl (Or.inl rfl))) (fun _ _ _ _ _ => ze0) (fun _ _ _ _ _ => (zu zr (hr.mono (by decide)) T.zdq T.zc5.kp T.zcy (zd (zh 5) (zd zl (zd zl zj))))))) zj))))))))
      (zo zbn)
      zam)
      (zm (zb7 (zd0 (zdk (z8 (zoa rfl) T.ztx zoc (zd (zcz (zj2 (own := [("one", 6), ("other", 7)]) rfl zb3.nd (z24 T.z4l (zd (zh 3) (zd (zyk sld (zh 3) (zzr zl) zzy) zj))) (blkOk_by (N := zd5) (sc := defScope zal) (by decide +kernel)) (fun _ _ _ _ _ => (zmf rfl (zbg (zaf (i := 6) zb3.nd rfl (Or.inl rfl)) (zbg (zaf (i := 7) zb3.nd rfl (Or.inl rfl)) zji)))) (fun _ _ _ _ _ => ze0) (fun _ _ _ _ _ => (zfv (z3f hr.units) (zh 6) (zh 7) (nomark _))))) zj))))
      (zo zbn)
      zam)
      (zm (zb7 (zmv (zfa (zd0 (zdk (z8 (zg0 T.isi) T.zax zao (zd (zh 4) (zd (zg3 T.zfn zed) zj))))) (zf3 (zaq (znj hr.units) (z8 zna T.zsv zmu (zd (zh 4) zj)) zl (nomark _)))))
      (zo zbn)
      zam)
      (zm (zb7 (zd0 (zdk (z8 (zoa rfl) T.ztx zoc (zd (zcz (zj2 (own := [("number", 8)]) rfl zb3.nd (zgw (zh 4)) (blkOk_by (N := zd5) (sc := defScope zal) (by decide +kernel)) (fun _ _ _ _ _ => (zaf (i := 8) zb3.nd rfl (Or.inl rfl))) (fun _ _ _ _ _ => ze0) (fun _ _ _ _ _ => (zu zr (hr.mono (by decide)) T.zdq T.zc5.kp T.zcy (zd (zh 8) (zd (zar zjb zl (zdc (Classical.choose_spec T.zh2))) (zd (zdc (Classical.choose_spec T.zh2)) zj))))))) zj))))
      (zo zbn)
      zam)
      (zm (zb7 (zmv (zfa (zaq (z0i hr.units) (zda (ixd hr.units) (zh 4) zl) (zda (ixd hr.units) (zh 4) zl) (nomark _)) (zf3 (zaq (z0i hr.units) (zda (ixd hr.units) (zh 4) zl) (zda (ixd hr.units) (zh 4) zl) (nomark _)))))
      (zo zbn)
      zam)
      (zm (zb7 (zaq (z0i hr.units) (zar zoe (zar zoe (z8 zna T.zsv zmu (zd (zh 3) zj)) (zar zew (zar zjb (zda (ixd hr.units) (zh 4) zl) (zda (ixd hr.units) (zh 4) zl)) zl)) (zar zew (zar zjb (zda (ixd hr.units) (zh 4) zl) (zda (ixd hr.units) (zh 4) zl)) zl)) (zdc (Classical.choose_spec T.zoy)) (nomark _))
      (zo zbn)
      zam)
      (zm (zea T.zdo T.zet (zh 0) (zh 1))
      (zm (zea T.zdo T.zg7 (zh 0) (zh 2))
      (zm (zea T.zdo T.zeg (zh 0) (zh 3))
      (zo (zea T.zdo T.zdj (zh 0) (zh 4))))))))))))
theorem zp1 (T : Txt K mg) (zr : FnD P w K mg base 1 T.zaz T.za6 ["thing", "low", "high"] zz) : FnD P w K mg base 2 T.zcl T.zd4 ["self", "ground", "camera", "turns", "area"] zcx :=
  fn_d T.zqu zb3 zof (zpq T zr) zoo
theorem zos [Bs] (T : Txt K mg) (cdv : Value) (A : Around) (outer : List Env) (s : Shared) (H : Hp) (E : XK) (hr : Room 0 (A.deeper (envOfC "Ground.__eq__" (defScope zav) s.heap.objs.size T.za7 cdv))) :
    PSsD (cxOf CX0 P w K mg base zfg "Ground.__eq__" (defScope zav) T.za7 cdv A outer s H E).nox (defBody zav) zhv :=
  (zo (zat (zf2 (z8 (zg0 T.isi) T.zax zao (zd (zh 1) (zd (zjt T.zpd) zj))) (zjh (zfv (zk0 hr.units) (z6 T.ziy T.zcv (zh 0)) (z6 T.ziy T.zcv (zh 1)) (nomark _))))))
theorem zoj (T : Txt K mg) : FnD P w K mg base 1 T.za7 T.zb1 ["self", "other"] zai :=
  fn_d T.zpc zop zn1 (zos T) znh
theorem zmt [Bs] (T : Txt K mg) (za0 : FnD P w K mg base 1 T.za7 T.zb1 ["self", "other"] zai) (cdv : Value) (A : Around) (outer : List Env) (s : Shared) (H : Hp) (E : XK) (hr : Room 4 (A.deeper (envOfC "have_one_ground" (defScope zad) s.heap.objs.size T.zbf cdv))) :
    PSsD (cxOf CX0 P w K mg base zdw "have_one_ground" (defScope zad) T.zbf cdv A outer s H E).nox (defBody zad) zf1 :=
  (zm (zd1 (i := 1) zeb.nd rfl (Or.inr rfl) (zda (ixd hr.units) (zh 0) zl))
      (zo (zat (z8 (zoa rfl) T.ztx zoc (zd (zcz (zj2 (own := [("one", 2)]) rfl zeb.nd (zgw (zh 0)) (blkOk_by (N := zdw) (sc := defScope zad) (by decide +kernel)) (fun _ _ _ _ _ => (zaf (i := 2) zeb.nd rfl (Or.inl rfl))) (fun _ _ _ _ _ => ze0) (fun _ _ _ _ _ => (zfv (z1y (P := zk3) (n := 2) (hr.mono (by decide)) ⟨⟨_, _, _, zai, za0, fun d G Q p q => zxc p q, T.zgp, T.zgv⟩, fun d p => zvb p⟩) (zv (zd (z6 T.zdo T.zet (zh 2)) (zd (z6 T.zdo T.zeg (zh 2)) (zd (z6 T.zdo T.zdj (zh 2)) zj)))) (zv (zd (z6 T.zdo T.zet (zh 1)) (zd (z6 T.zdo T.zeg (zh 1)) (zd (z6 T.zdo T.zdj (zh 1)) zj)))) (nomark _))))) zj)))))
theorem zmy (T : Txt K mg) (za0 : FnD P w K mg base 1 T.za7 T.zb1 ["self", "other"] zai) : FnD P w K mg base 5 T.zbf T.zct ["skies"] zbm :=
  fn_d T.zir zeb zma (zmt T za0) zl5
theorem znq [Bs] (T : Txt K mg) (zdp : FnD P w K mg base 5 T.zbf T.zct ["skies"] zbm) (zby : FnD P w K mg base 2 T.zc6 T.zd7 ["thing"] zbx) (zr : FnD P w K mg base 1 T.zaz T.za6 ["thing", "low", "high"] zz) (cdv : Value) (A : Around) (outer : List Env) (s : Shared) (H : Hp) (E : XK) (hr : Room 5 (A.deeper (envOfC "Craft.__init__" (defScope z9) s.heap.objs.size T.zbr cdv))) :
    PSsD (cxOf CX0 P w K mg base zc8 "Craft.__init__" (defScope z9) T.zbr cdv A outer s H E).nox (defBody z9) zj5 :=
  (zm (zb7 (zmv (zfa (zd0 (zdk (z8 (zg0 T.isi) T.zax zao (zd (zh 1) (zd (zg3 T.zfn zed) zj))))) (zfa (zaq (z4c hr.units) (zh 1) (zv zj) (nomark _)) (zf3 (zd0 (zdk (z8 (zoa rfl) T.ztx zoc (zd (zcz (zj2 (own := [("one", 5)]) rfl zbu.nd (zgw (zh 1)) (blkOk_by (N := zc8) (sc := defScope z9) (by decide +kernel)) (fun _ _ _ _ _ => (zaf (i := 5) zbu.nd rfl (Or.inl rfl))) (fun _ _ _ _ _ => ze0) (fun _ _ _ _ _ => (z8 (zg0 T.isi) T.zax zao (zd (zh 5) (zd (zjt T.zya) zj)))))) zj))))))))
      (zo zbn)
      zam)
      (zm (zb7 (zd0 (zdk (zu zdp (hr.mono (by decide)) T.zny T.zir.kp T.zm9 (zd (zh 1) zj))))
      (zo zbn)
      zam)
      (zm (zb7 (zd0 (zdk (zu zby (hr.mono (by decide)) T.zng T.zld.kp T.zl6 (zd (zh 2) zj))))
      (zo zbn)
      zam)
      (zm (zb7 (zd0 (zdk (zu zr (hr.mono (by decide)) T.zdq T.zc5.kp T.zcy (zd (zh 3) (zd zl (zd (zdc (Classical.choose_spec T.zvm)) zj))))))
      (zo zbn)
      zam)
      (zm (zb7 (zmv (zfa (zd0 (zdk (z8 (zg0 T.isi) T.zax zao (zd (zh 4) (zd (zg3 T.zfn zed) zj))))) (zf3 (zd0 (zdk (z8 (zoa rfl) T.ztx zoc (zd (zcz (zj2 (own := [("one", 5)]) rfl zbu.nd (zgw (zh 4)) (blkOk_by (N := zc8) (sc := defScope z9) (by decide +kernel)) (fun _ _ _ _ _ => (zaf (i := 5) zbu.nd rfl (Or.inl rfl))) (fun _ _ _ _ _ => ze0) (fun _ _ _ _ _ => (z8 (zg0 T.isi) T.zax zao (zd (zh 5) (zd (zjt T.zjr) zj)))))) zj)))))))
      (zo zbn)
      zam)
      (zm (zb7 (zdk (z8 (z4q rfl) T.z5l z32 (zd (zcz (zj2 (own := [("one", 5)]) rfl zbu.nd (zgw (zh 4)) (blkOk_by (N := zc8) (sc := defScope z9) (by decide +kernel)) (fun _ _ _ _ _ => (zaf (i := 5) zbu.nd rfl (Or.inl rfl))) (fun _ _ _ _ _ => ze0) (fun _ _ _ _ _ => (zf2 (zfv (zk0 hr.units) (z6 T.zex T.zh0 (zh 5)) zbe (nomark _)) (zjh (zfv (z4t hr.units) (z6 T.zex T.zjd (zh 5)) (z8 zna T.zsv zmu (zd (zh 1) zj)) (nomark _))))))) zj)))
      (zo zbn)
      zam)
      (zm (zea T.zd2 T.zim (zh 0) (zh 1))
      (zm (zea T.zd2 T.zjl (zh 0) (zh 2))
      (zm (zea T.zd2 T.zjv (zh 0) (zh 3))
      (zo (zea T.zd2 T.zgf (zh 0) (zh 4))))))))))))
theorem znp (T : Txt K mg) (zdp : FnD P w K mg base 5 T.zbf T.zct ["skies"] zbm) (zby : FnD P w K mg base 2 T.zc6 T.zd7 ["thing"] zbx) (zr : FnD P w K mg base 1 T.zaz T.za6 ["thing", "low", "high"] zz) : FnD P w K mg base 6 T.zbr T.zc4 ["self", "skies", "foot", "room", "deeds"] za3 :=
  fn_d T.zom zbu zm3 (znq T zdp zby zr) zm0
theorem zqp [Bs] (T : Txt K mg) (cdv : Value) (A : Around) (outer : List Env) (s : Shared) (H : Hp) (E : XK) (hr : Room 0 (A.deeper (envOfC "_law_number" (defScope zbb) s.heap.objs.size T.zdb cdv))) :
    PSsD (cxOf CX0 P w K mg base zg8 "_law_number" (defScope zbb) T.zdb cdv A outer s H E).nox (defBody zbb) zjo :=
  (zm (zx6 (zqg (zaq (znj hr.units) (zh 0) (zk7 zj) (nomark _)) (zv (zd (zda (ixd hr.units) (zh 0) (zar zp8 (zh 1) (z8 zna T.zsv zmu (zd (zh 0) zj)))) (zd (zar zvz (zh 1) (z8 zna T.zsv zmu (zd (zh 0) zj))) zj))) (zv (zd zl (zd zl zj)))) (zmf rfl (zbg (zaf (i := 2) zcm.nd rfl (Or.inl rfl)) (zbg (zaf (i := 3) zcm.nd rfl (Or.inl rfl)) zji))))
      (zm (zd1 (i := 4) zcm.nd rfl (Or.inl rfl) (zqg (zaq (z3f hr.units) (zh 3) zl (nomark _)) (zar zjb (zh 2) (zar z3v zl zl)) zl))
      (zm (zij PassesOwn.never rfl (znw T.zl0 (zd (zar zp8 (zcq zq8 T.zvo zpz (zd (zh 3) zj)) zl) zj)) (zaf (i := 5) zcm.nd rfl (Or.inl rfl))
      (zo (zd1 (i := 4) zcm.nd rfl (Or.inl rfl) (zar zvz (zh 4) zl))))
      (zm (zb7 (zaq (z0i hr.units) (zh 4) zl (nomark _))
      (zo (zat (zar zp8 (zcq zq8 T.zvo zpz (zd (zh 4) zj)) zl)))
      zam)
      (zm (zd1 (i := 6) zcm.nd rfl (Or.inl rfl) (zar zp8 (zar zew (zar zoe (zcq zq8 T.zvo zpz (zd (zar zew (zh 2) (zar zoe zl (zh 1))) zj)) zl) (zar zoe zl (z8 zna T.zsv zmu (zd (zh 0) zj)))) zl))
      (zm (zd1 (i := 6) zcm.nd rfl (Or.inl rfl) (zar zp8 (zar zew (zar zoe (zh 6) (zh 6)) (zar zoe zl (zh 1))) zl))
      (zo (zat (zcq zq8 T.zvo zpz (zd (zar zp8 (zar zew (zar zoe (zh 6) zl) (zar zvz (zh 6) zl)) zl) zj))))))))))
theorem zqv (T : Txt K mg) : FnD P w K mg base 1 T.zdb T.zev ["script", "index"] zdm :=
  fn_d T.znc zcm zpl (zqp T) zp3
theorem ztg [Bs] (T : Txt K mg) (zfi : FnD P w K mg base 1 T.zdb T.zev ["script", "index"] zdm) (cdv : Value) (A : Around) (outer : List Env) (s : Shared) (H : Hp) (E : XK) (hr : Room 1 (A.deeper (envOfC "_law_take" (defScope zce) s.heap.objs.size T.zca cdv))) :
    PSsD (cxOf CX0 P w K mg base zju "_law_take" (defScope zce) T.zca cdv A outer s H E).nox (defBody zce) zlp :=
  (zm (zzp (zh 0) zl zzq zl z17 (z37 hr.units))
      (zo (zat (zar zp8 (zcq zq8 T.zvo zpz (zd (zu zfi (hr.mono (by decide)) T.zrz T.znc.kp T.zqo (zd (zda (ixd hr.units) (zh 0) zl) (zd (zcq zq8 T.zvo zpz (zd (zda (ixd hr.units) (zh 0) zl) zj)) zj))) zj)) (zh 1)))))
theorem zub (T : Txt K mg) (zfi : FnD P w K mg base 1 T.zdb T.zev ["script", "index"] zdm) : FnD P w K mg base 2 T.zca T.zdn ["draw", "many"] zp :=
  fn_d T.zae ztv zsh (ztg T zfi) zsd
theorem ztp [Bs] (T : Txt K mg) (zs : FnD P w K mg base 2 T.zca T.zdn ["draw", "many"] zp) (cdv : Value) (A : Around) (outer : List Env) (s : Shared) (H : Hp) (E : XK) (hr : Room 2 (A.deeper (envOfC "_law_pick" (defScope zcc) s.heap.objs.size T.zdi cdv))) :
    PSsD (cxOf CX0 P w K mg base zjg "_law_pick" (defScope zcc) T.zdi cdv A outer s H E).nox (defBody zcc) zlx :=
  (zo (zat (zda (ixd hr.units) (zh 1) (zu zs (hr.mono (by decide)) T.zag T.zae.kp T.zaa (zd (zh 0) (zd (z8 zna T.zsv zmu (zd (zh 1) zj)) zj))))))
theorem zul (T : Txt K mg) (zs : FnD P w K mg base 2 T.zca T.zdn ["draw", "many"] zp) : FnD P w K mg base 3 T.zdi T.zee ["draw", "items"] zb4 :=
  fn_d T.zjc ztq zsp (ztp T zs) zsm
theorem z2e [Bs] (T : Txt K mg) (zn : FnD P w K mg base 4 T.z7 T.zac ["self", "kind", "fuel", "aim", "slips"] zq) (cdv : Value) (A : Around) (outer : List Env) (s : Shared) (H : Hp) (E : XK) (hr : Room 5 (A.deeper (envOfC "look" (defScope zj1) s.heap.objs.size T.zn9 cdv))) :
    PSsD (cxOf CX0 P w K mg base zw0 "look" (defScope zj1) T.zn9 cdv A outer s H E).nox (defBody zj1) zy9 :=
  (zo (zat (zcz (zec T.zl9 zn (hr.mono (by decide)) T.zjr T.zb9 (zd zbe (zd (zh 0) (zd (zh 1) (zd (zv (zd (zv (zd zl (zd zl zj))) zj)) zj))))))))
theorem z20 (T : Txt K mg) (zn : FnD P w K mg base 4 T.z7 T.zac ["self", "kind", "fuel", "aim", "slips"] zq) : FnD P w K mg base 6 T.zn9 T.zra ["fuel", "aim"] zl2 :=
  fn_d T.z01 z2g zz1 (z2e T zn) z0y
theorem z1t [Bs] (T : Txt K mg) (zn : FnD P w K mg base 4 T.z7 T.zac ["self", "kind", "fuel", "aim", "slips"] zq) (cdv : Value) (A : Around) (outer : List Env) (s : Shared) (H : Hp) (E : XK) (hr : Room 5 (A.deeper (envOfC "step" (defScope zkh) s.heap.objs.size T.zob cdv))) :
    PSsD (cxOf CX0 P w K mg base zw1 "step" (defScope zkh) T.zob cdv A outer s H E).nox (defBody zkh) zyu :=
  (zo (zat (zcz (zec T.zl9 zn (hr.mono (by decide)) T.zjr T.zb9 (zd zbe (zd (zh 0) (zd (zh 1) (zd (zh 2) zj))))))))
theorem z1r (T : Txt K mg) (zn : FnD P w K mg base 4 T.z7 T.zac ["self", "kind", "fuel", "aim", "slips"] zq) : FnD P w K mg base 6 T.zob T.zq0 ["fuel", "aim", "slips"] zl8 :=
  fn_d T.z1h z1n z00 (z1t T zn) zzm
theorem z13 [Bs] (T : Txt K mg) (zn : FnD P w K mg base 4 T.z7 T.zac ["self", "kind", "fuel", "aim", "slips"] zq) (cdv : Value) (A : Around) (outer : List Env) (s : Shared) (H : Hp) (E : XK) (hr : Room 5 (A.deeper (envOfC "land" (defScope zkg) s.heap.objs.size T.zn8 cdv))) :
    PSsD (cxOf CX0 P w K mg base zwr "land" (defScope zkg) T.zn8 cdv A outer s H E).nox (defBody zkg) zye :=
  (zo (zat (zcz (zec T.zl9 zn (hr.mono (by decide)) T.zjr T.zb9 (zd zbe (zd (zh 0) (zd zsf (zd (zh 1) zj))))))))
theorem z12 (T : Txt K mg) (zn : FnD P w K mg base 4 T.z7 T.zac ["self", "kind", "fuel", "aim", "slips"] zq) : FnD P w K mg base 6 T.zn8 T.zq3 ["fuel", "slips"] zln :=
  fn_d T.z1j z26 zzo (z13 T zn) zz6
theorem z2r [Bs] (T : Txt K mg) (zn : FnD P w K mg base 4 T.z7 T.zac ["self", "kind", "fuel", "aim", "slips"] zq) (cdv : Value) (A : Around) (outer : List Env) (s : Shared) (H : Hp) (E : XK) (hr : Room 5 (A.deeper (envOfC "away" (defScope zj4) s.heap.objs.size T.zn3 cdv))) :
    PSsD (cxOf CX0 P w K mg base zv3 "away" (defScope zj4) T.zn3 cdv A outer s H E).nox (defBody zj4) zzh :=
  (zo (zat (zcz (zec T.zl9 zn (hr.mono (by decide)) T.zjr T.zb9 (zd zbe (zd (zh 0) (zd zsf (zd (zv (zd (zv (zd zl (zd zl zj))) zj)) zj))))))))
theorem z1p (T : Txt K mg) (zn : FnD P w K mg base 4 T.z7 T.zac ["self", "kind", "fuel", "aim", "slips"] zq) : FnD P w K mg base 6 T.zn3 T.zq2 ["fuel"] zly :=
  fn_d T.z08 z2l z0x (z2r T zn) z0t
theorem zou [Bs] (T : Txt K mg) (cdv : Value) (A : Around) (outer : List Env) (s : Shared) (H : Hp) (E : XK) (hr : Room 0 (A.deeper (envOfC "Sky.standings" (defScope zaw) s.heap.objs.size T.zb2 cdv))) :
    PSsD (cxOf CX0 P w K mg base zfr "Sky.standings" (defScope zaw) T.zb2 cdv A outer s H E).nox (defBody zaw) zhr :=
  (zm (zd1 (i := 1) zd3.nd rfl (Or.inl rfl) (zrj zj))
      (zm (zij PassesOwn.never rfl (zgw (z6 T.zdo T.zeg (zh 0))) (zaf (i := 2) zd3.nd rfl (Or.inl rfl))
      (zo (zij PassesOwn.never rfl (zlf T.zl0 (zd (zda (ixd hr.units) (z6 T.zdo T.zdj (zh 0)) zl) (zd (zar zew (zda (ixd hr.units) (z6 T.zdo T.zdj (zh 0)) zl) zl) zj))) (zaf (i := 3) zd3.nd rfl (Or.inl rfl))
      (zo (zij PassesOwn.never rfl (zlf T.zl0 (zd (zda (ixd hr.units) (z6 T.zdo T.zdj (zh 0)) zl) (zd (zar zew (zda (ixd hr.units) (z6 T.zdo T.zdj (zh 0)) zl) zl) zj))) (zaf (i := 4) zd3.nd rfl (Or.inl rfl))
      (zo (zwe (z3g PySem.F.plainAttrs_list PySem.F.slot_list_append PySem.F.type_list_append zuh (zh 1) (zd (zv (zd (zh 2) (zd (zh 3) (zd (zh 4) zj)))) zj)))))))))
      (zws 1 (zo (zat (zcq zjq T.zfn zed (zd (zh 1) zj)))))))
theorem zon (T : Txt K mg) : FnD P w K mg base 1 T.zb2 T.zdv ["self"] zcg :=
  fn_d T.zpi zd3 zns (zou T) znu
theorem zqm [Bs] (T : Txt K mg) (cdv : Value) (A : Around) (outer : List Env) (s : Shared) (H : Hp) (E : XK) (hr : Room 0 (A.deeper (envOfC "Camera.told" (defScope zbc) s.heap.objs.size T.zbz cdv))) :
    PSsD (cxOf CX0 P w K mg base zg1 "Camera.told" (defScope zbc) T.zbz cdv A outer s H E).nox (defBody zbc) zje :=
  (zo (zat (zv (zd (z6 T.zbj T.zhs (zh 0)) (zd (z6 T.zbj T.zgt (zh 0)) (zd (z6 T.zbj T.zhg (zh 0)) (zd (z6 T.zbj T.zhx (zh 0)) (zd (z6 T.zbj T.zii (zh 0)) zj))))))))
theorem zqq (T : Txt K mg) : FnD P w K mg base 1 T.zbz T.zdf ["self"] za2 :=
  fn_d T.zr7 zqt zqf (zqm T) zp5
theorem zoi [Bs] (T : Txt K mg) (za9 : FnD P w K mg base 1 T.zbz T.zdf ["self"] za2) (cdv : Value) (A : Around) (outer : List Env) (s : Shared) (H : Hp) (E : XK) (hr : Room 1 (A.deeper (envOfC "Camera.__eq__" (defScope zau) s.heap.objs.size T.zb5 cdv))) :
    PSsD (cxOf CX0 P w K mg base zfq "Camera.__eq__" (defScope zau) T.zb5 cdv A outer s H E).nox (defBody zau) zhu :=
  (zo (zat (zf2 (z8 (zg0 T.isi) T.zax zao (zd (zh 1) (zd (zjt T.zs7) zj))) (zjh (zfv (zk0 hr.units) (zft T.zbj T.zgj za9 (hr.mono (by decide)) T.zge (zh 0)) (zft T.zbj T.zgj za9 (hr.mono (by decide)) T.zge (zh 1)) (nomark _))))))
theorem zow (T : Txt K mg) (za9 : FnD P w K mg base 1 T.zbz T.zdf ["self"] za2) : FnD P w K mg base 2 T.zb5 T.zdr ["self", "other"] zbt :=
  fn_d T.zpx zox zn2 (zoi T za9) zn0
theorem zry [Bs] (T : Txt K mg) (za9 : FnD P w K mg base 1 T.zbz T.zdf ["self"] za2) (cdv : Value) (A : Around) (outer : List Env) (s : Shared) (H : Hp) (E : XK) (hr : Room 1 (A.deeper (envOfC "Sky.__eq__" (defScope zbs) s.heap.objs.size T.zck cdv))) :
    PSsD (cxOf CX0 P w K mg base zif "Sky.__eq__" (defScope zbs) T.zck cdv A outer s H E).nox (defBody zbs) zkx :=
  (zm (zb7 (zmv (zfa (zd0 (zdk (z8 (zg0 T.isi) T.zax zao (zd (zh 1) (zd (zjt T.zya) zj))))) (zf3 (zaq (znj hr.units) (z6 T.ziy T.zcv (z6 T.zdo T.zet (zh 0))) (z6 T.ziy T.zcv (z6 T.zdo T.zet (zh 1))) (nomark _)))))
      (zo (zat zn4))
      zam)
      (zo (zat (zfv (zk0 hr.units) (zv (zd (zft T.zbj T.zgj za9 (hr.mono (by decide)) T.zge (z6 T.zdo T.zg7 (zh 0))) (zd (z6 T.zdo T.zeg (zh 0)) (zd (z6 T.zdo T.zdj (zh 0)) zj)))) (zv (zd (zft T.zbj T.zgj za9 (hr.mono (by decide)) T.zge (z6 T.zdo T.zg7 (zh 1))) (zd (z6 T.zdo T.zeg (zh 1)) (zd (z6 T.zdo T.zdj (zh 1)) zj)))) (nomark _)))))
theorem zst (T : Txt K mg) (za9 : FnD P w K mg base 1 T.zbz T.zdf ["self"] za2) : FnD P w K mg base 2 T.zck T.zdx ["self", "other"] zbk :=
  fn_d T.ztz zsb zqs (zry T za9) zqj
theorem zs3 [Bs] (T : Txt K mg) (cdv : Value) (A : Around) (outer : List Env) (s : Shared) (H : Hp) (E : XK) (hr : Room 0 (A.deeper (envOfC "Deed.told" (defScope zcd) s.heap.objs.size T.zei cdv))) :
    PSsD (cxOf CX0 P w K mg base zjm "Deed.told" (defScope zcd) T.zei cdv A outer s H E).nox (defBody zcd) zl4 :=
  (zo (zat (zv (zd (z6 T.zex T.zh0 (zh 0)) (zd (z6 T.zex T.zkt (zh 0)) (zd (z6 T.zex T.zjd (zh 0)) (zd (z6 T.zex T.zjs (zh 0)) zj)))))))
theorem ztf (T : Txt K mg) : FnD P w K mg base 1 T.zei T.zf7 ["self"] zdy :=
  fn_d T.zu9 ztw zsl (zs3 T) zsn
theorem zqk [Bs] (T : Txt K mg) (zfz : FnD P w K mg base 1 T.zei T.zf7 ["self"] zdy) (cdv : Value) (A : Around) (outer : List Env) (s : Shared) (H : Hp) (E : XK) (hr : Room 3 (A.deeper (envOfC "Deed.__eq__" (defScope za8) s.heap.objs.size T.zb0 cdv))) :
    PSsD (cxOf CX0 P w K mg base zg6 "Deed.__eq__" (defScope za8) T.zb0 cdv A outer s H E).nox (defBody za8) zjf :=
  (zo (zat (zf2 (z8 (zg0 T.isi) T.zax zao (zd (zh 1) (zd (zjt T.zjr) zj))) (zjh (zfv (zxn (P := (fun _ => False)) (n := 2) (hr.mono (by decide)) z0h) (zft T.zex T.zn6 zfz (hr.mono (by decide)) T.zod (zh 0)) (zft T.zex T.zn6 zfz (hr.mono (by decide)) T.zod (zh 1)) (nomark _))))))
theorem zqn (T : Txt K mg) (zfz : FnD P w K mg base 1 T.zei T.zf7 ["self"] zdy) : FnD P w K mg base 4 T.zb0 T.zdh ["self", "other"] zas :=
  fn_d T.zrp zqh zp0 (zqk T zfz) zpf
theorem zsy [Bs] (T : Txt K mg) (cdv : Value) (A : Around) (outer : List Env) (s : Shared) (H : Hp) (E : XK) (hr : Room 0 (A.deeper (envOfC "Craft.told" (defScope zbq) s.heap.objs.size T.zdz cdv))) :
    PSsD (cxOf CX0 P w K mg base zh4 "Craft.told" (defScope zbq) T.zdz cdv A outer s H E).nox (defBody zbq) zkz :=
  (zo (zat (zv (zd (z6 T.zd2 T.zim (zh 0)) (zd (z6 T.zd2 T.zjl (zh 0)) (zd (z6 T.zd2 T.zjv (zh 0)) (zd (z6 T.zd2 T.zgf (zh 0)) zj)))))))
theorem zsu (T : Txt K mg) : FnD P w K mg base 1 T.zdz T.zfc ["self"] zde :=
  fn_d T.zt6 zsx zqr (zsy T) zqi
theorem zpy [Bs] (T : Txt K mg) (zfd : FnD P w K mg base 1 T.zdz T.zfc ["self"] zde) (zbd : FnD P w K mg base 4 T.zb0 T.zdh ["self", "other"] zas) (zcj : FnD P w K mg base 2 T.zck T.zdx ["self", "other"] zbk) (cdv : Value) (A : Around) (outer : List Env) (s : Shared) (H : Hp) (E : XK) (hr : Room 7 (A.deeper (envOfC "Craft.__eq__" (defScope za1) s.heap.objs.size T.zcn cdv))) :
    PSsD (cxOf CX0 P w K mg base zgh "Craft.__eq__" (defScope za1) T.zcn cdv A outer s H E).nox (defBody za1) zil :=
  (zo (zat (zf2 (z8 (zg0 T.isi) T.zax zao (zd (zh 1) (zd (zjt T.zo9) zj))) (zjh (zfv (zxn (P := (fun d => zql d ∨ zli d)) (n := 2) (hr.mono (by decide)) (z4k (zwn (P := zql) ⟨⟨_, _, _, zbk, zcj, fun d G Q p q => zyq p q, T.zmk, T.zmx⟩, fun d p => zv8 p⟩) (zwn (P := zli) ⟨⟨_, _, _, zas, zbd, fun d G Q p q => zwx p q, T.zgi, T.zgd⟩, fun d p => ztl p⟩))) (zft T.zd2 T.zmz zfd (hr.mono (by decide)) T.zm7 (zh 0)) (zft T.zd2 T.zmz zfd (hr.mono (by decide)) T.zm7 (zh 1)) (nomark _))))))
theorem zpn (T : Txt K mg) (zfd : FnD P w K mg base 1 T.zdz T.zfc ["self"] zde) (zbd : FnD P w K mg base 4 T.zb0 T.zdh ["self", "other"] zas) (zcj : FnD P w K mg base 2 T.zck T.zdx ["self", "other"] zbk) : FnD P w K mg base 8 T.zcn T.zd6 ["self", "other"] zbl :=
  fn_d T.zqw zpo zok (zpy T zfd zbd zcj) zoz
theorem zv1 [Bs] (T : Txt K mg) (zc0 : FnD P w K mg base 3 T.zdi T.zee ["draw", "items"] zb4) (zs : FnD P w K mg base 2 T.zca T.zdn ["draw", "many"] zp) (cdv : Value) (A : Around) (outer : List Env) (s : Shared) (H : Hp) (E : XK) (hr : Room 3 (A.deeper (envOfC "_law_raw" (defScope zc7) s.heap.objs.size T.zfb cdv))) :
    PSsD (cxOf CX0 P w K mg base zk5 "_law_raw" (defScope zc7) T.zfb cdv A outer s H E).nox (defBody zc7) znn :=
  (zm (zd1 (i := 1) zf8.nd rfl (Or.inl rfl) (zk7 (zd (zv (zd (zv (zd zl (zd zl zj))) zj)) (zd (zv (zd (zv (zd zl (zd zl zj))) (zd (zv (zd zl (zd zl zj))) zj))) (zd (zv (zd (zv (zd zl (zd (zx1 zl) zj))) (zd (zv (zd zl (zd zl zj))) (zd (zv (zd zl (zd zl zj))) zj)))) zj)))))
      (zm (zd1 (i := 2) zf8.nd rfl (Or.inl rfl) (zrj zj))
      (zm (zij PassesOwn.never rfl (znw T.zl0 (zd (zar zew zl (zu zs (hr.mono (by decide)) T.zag T.zae.kp T.zaa (zd (zh 0) (zd zl zj)))) zj)) (zaf (i := 3) zf8.nd rfl (Or.inl rfl))
      (zm (zvy (i := 4) (j := 5) rfl zf8.nd rfl rfl (by decide) rfl rfl (zd (zu zc0 (hr.mono (by decide)) T.zlz T.zjc.kp T.zku (zd (zh 0) (zd (zk7 (zd zbe (zd zbe (zd zbe (zd zbe (zd zbe zj)))))) zj))) (zd (zar zew zl (zu zs (hr.mono (by decide)) T.zag T.zae.kp T.zaa (zd (zh 0) (zd zl zj)))) zj)) (by with_unfolding_all rfl))
      (zm (zd1 (i := 6) zf8.nd rfl (Or.inl rfl) (zqg (zaq (zk0 hr.units) (zh 4) zbe (nomark _)) (zv (zd (zar zjb (zu zs (hr.mono (by decide)) T.zag T.zae.kp T.zaa (zd (zh 0) (zd zl zj))) zl) (zd (zar zjb (zu zs (hr.mono (by decide)) T.zag T.zae.kp T.zaa (zd (zh 0) (zd zl zj))) zl) zj))) (zqg (zaq (zk0 hr.units) (zh 4) zbe (nomark _)) (zar zew zl (zu zs (hr.mono (by decide)) T.zag T.zae.kp T.zaa (zd (zh 0) (zd zl zj)))) (zqg (zaq (zk0 hr.units) (zh 4) zbe (nomark _)) zl zsf))))
      (zo (zwe (z3g PySem.F.plainAttrs_list PySem.F.slot_list_append PySem.F.type_list_append zuh (zh 2) (zd (zv (zd (zh 4) (zd (zh 5) (zd (zh 6) (zd (zqg (zaq (z3n (have h := DL.Room.u65 hr; h)) (zh 4) (zv (zd zbe (zd zbe zj))) (by with_unfolding_all rfl)) (zu zc0 (hr.mono (by decide)) T.zlz T.zjc.kp T.zku (zd (zh 0) (zd (zh 1) zj))) (zv (zd (zv (zd zl (zd zl zj))) zj))) zj))))) zj)))))))
      (zws 2 (zo (zz9 (zh 2)))))))
theorem zv2 (T : Txt K mg) (zc0 : FnD P w K mg base 3 T.zdi T.zee ["draw", "items"] zb4) (zs : FnD P w K mg base 2 T.zca T.zdn ["draw", "many"] zp) : FnD P w K mg base 4 T.zfb T.zha ["draw"] ze7 :=
  fn_d T.zq6 zf8 zuk (zv1 T zc0 zs) zs9
theorem zua [Bs] (T : Txt K mg) (zta : FnD P w K mg base 6 T.zn3 T.zq2 ["fuel"] zly) (ztk : FnD P w K mg base 6 T.zn8 T.zq3 ["fuel", "slips"] zln) (zui : FnD P w K mg base 6 T.zn9 T.zra ["fuel", "aim"] zl2) (ztc : FnD P w K mg base 6 T.zob T.zq0 ["fuel", "aim", "slips"] zl8) (zt4 : FnD P w K mg base 6 T.zn5 T.zrb ["fuel", "aim"] zlo) (cdv : Value) (A : Around) (outer : List Env) (s : Shared) (H : Hp) (E : XK) (hr : Room 6 (A.deeper (envOfC "_law_made" (defScope zcb) s.heap.objs.size T.zeq cdv))) :
    PSsD (cxOf CX0 P w K mg base zej "_law_made" (defScope zcb) T.zeq cdv A outer s H E).nox (defBody zcb) ze6 :=
  (zm (zx6 (zh 0) (zmf rfl (zbg (zaf (i := 1) zgm.nd rfl (Or.inl rfl)) (zbg (zaf (i := 2) zgm.nd rfl (Or.inl rfl)) (zbg (zaf (i := 3) zgm.nd rfl (Or.inl rfl)) (zbg (zaf (i := 4) zgm.nd rfl (Or.inl rfl)) zji))))))
      (zm (zb7 (zaq (zk0 hr.units) (zh 1) zbe (nomark _))
      (zo (zat (zu ztc (hr.mono (by decide)) T.z28 T.z1h.kp T.z2f (zd (zh 2) (zd (zh 3) (zd (zh 4) zj))))))
      zam)
      (zm (zb7 (zaq (zk0 hr.units) (zh 1) zbe (nomark _))
      (zo (zat (zu zt4 (hr.mono (by decide)) T.z3d T.z02.kp T.z16 (zd (zh 2) (zd (zh 3) zj)))))
      zam)
      (zm (zb7 (zaq (zk0 hr.units) (zh 1) zbe (nomark _))
      (zo (zat (zu zui (hr.mono (by decide)) T.z30 T.z01.kp T.z1u (zd (zh 2) (zd (zh 3) zj)))))
      zam)
      (zo (zat (zqg (zaq (zk0 hr.units) (zh 1) zbe (nomark _)) (zu ztk (hr.mono (by decide)) T.z3m T.z1j.kp T.z2z (zd (zh 2) (zd (zh 4) zj))) (zu zta (hr.mono (by decide)) T.z3k T.z08.kp T.z1m (zd (zh 2) zj)))))))))
theorem zti (T : Txt K mg) (zta : FnD P w K mg base 6 T.zn3 T.zq2 ["fuel"] zly) (ztk : FnD P w K mg base 6 T.zn8 T.zq3 ["fuel", "slips"] zln) (zui : FnD P w K mg base 6 T.zn9 T.zra ["fuel", "aim"] zl2) (ztc : FnD P w K mg base 6 T.zob T.zq0 ["fuel", "aim", "slips"] zl8) (zt4 : FnD P w K mg base 6 T.zn5 T.zrb ["fuel", "aim"] zlo) : FnD P w K mg base 7 T.zeq T.zf6 ["raw"] zel :=
  fn_d T.zps zgm zr2 (zua T zta ztk zui ztc zt4) zsc
theorem z4o [Bs] (T : Txt K mg) (zek : FnD P w K mg base 2 T.zb5 T.zdr ["self", "other"] zbt) (zdu : FnD P w K mg base 2 T.zbi T.zcw ["self", "width", "height", "error", "false", "lost"] zbp) (zd8 : FnD P w K mg base 8 T.zcn T.zd6 ["self", "other"] zbl) (zch : FnD P w K mg base 6 T.zbr T.zc4 ["self", "skies", "foot", "room", "deeds"] za3) (zbd : FnD P w K mg base 4 T.zb0 T.zdh ["self", "other"] zas) (zn : FnD P w K mg base 4 T.z7 T.zac ["self", "kind", "fuel", "aim", "slips"] zq) (za0 : FnD P w K mg base 1 T.za7 T.zb1 ["self", "other"] zai) (zcr : FnD P w K mg base 3 T.zbh T.zcs ["self", "craters"] za5) (zcj : FnD P w K mg base 2 T.zck T.zdx ["self", "other"] zbk) (zez : FnD P w K mg base 2 T.zcl T.zd4 ["self", "ground", "camera", "turns", "area"] zcx) (zen : FnD P w K mg base 1 T.zb2 T.zdv ["self"] zcg) (zht : FnD P w K mg base 7 T.zeq T.zf6 ["raw"] zel) (zc0 : FnD P w K mg base 3 T.zdi T.zee ["draw", "items"] zb4) (zi2 : FnD P w K mg base 4 T.zfb T.zha ["draw"] ze7) (zs : FnD P w K mg base 2 T.zca T.zdn ["draw", "many"] zp) (cdv : Value) (A : Around) (outer : List Env) (s : Shared) (H : Hp) (E : XK) (hr : Room 11 (A.deeper (envOfC "law" (defScope zkj) s.heap.objs.size T.zxl cdv))) :
    PSsD (cxOf CX0 P w K mg base zu3 "law" (defScope zkj) T.zxl cdv A outer s H E).nox (defBody zkj) z2x :=
  (zm (zd1 (i := 1) zds.nd rfl (Or.inr rfl) (zrj (zd (zh 0) (zd zl zj))))
      (zm (zd1 (i := 2) zds.nd rfl (Or.inl rfl) (zcz (z8 (zt5 hr.units) T.zo8 zpb (zd (zcz (zj2 (own := [("number", 24)]) rfl zds.nd (znw T.zl0 (zd (zu zs (hr.mono (by decide)) T.zag T.zae.kp T.zaa (zd (zh 1) (zd zl zj))) zj)) (blkOk_by (N := zu3) (sc := defScope zkj) (by decide +kernel)) (fun _ _ _ _ _ => (zaf (i := 24) zds.nd rfl (Or.inl rfl))) (fun _ _ _ _ _ => ze0) (fun _ _ _ _ _ => (zv (zd (zar zjb (zu zs (hr.mono (by decide)) T.zag T.zae.kp T.zaa (zd (zh 1) (zd zl zj))) zl) (zd (zar zjb (zu zs (hr.mono (by decide)) T.zag T.zae.kp T.zaa (zd (zh 1) (zd zl zj))) zl) (zd (zar zew zl (zu zs (hr.mono (by decide)) T.zag T.zae.kp T.zaa (zd (zh 1) (zd zl zj)))) zj))))))) zj))))
      (zm (zd1 (i := 3) zds.nd rfl (Or.inl rfl) (zv (zd (zar zew zl (zu zs (hr.mono (by decide)) T.zag T.zae.kp T.zaa (zd (zh 1) (zd zl zj)))) (zd (zar zew zl (zu zs (hr.mono (by decide)) T.zag T.zae.kp T.zaa (zd (zh 1) (zd zl zj)))) (zd (zu zs (hr.mono (by decide)) T.zag T.zae.kp T.zaa (zd (zh 1) (zd zl zj))) (zd (zu zs (hr.mono (by decide)) T.zag T.zae.kp T.zaa (zd (zh 1) (zd zl zj))) (zd (zu zs (hr.mono (by decide)) T.zag T.zae.kp T.zaa (zd (zh 1) (zd zl zj))) zj)))))))
      (zm (zd1 (i := 4) zds.nd rfl (Or.inl rfl) (zu zc0 (hr.mono (by decide)) T.zlz T.zjc.kp T.zku (zd (zh 1) (zd (zk7 (zd (zv (zd zl zj)) (zd (zv (zd zl (zd zl zj))) (zd (zv (zd zl (zd zl (zd zl zj)))) (zd (zv (zd zl (zd zl (zd zl (zd zl zj))))) zj))))) zj))))
      (zm (zvy (i := 5) (j := 6) rfl zds.nd rfl rfl (by decide) rfl rfl (zd (zar zjb (zu zs (hr.mono (by decide)) T.zag T.zae.kp T.zaa (zd (zh 1) (zd zl zj))) zl) (zd (zar zjb (zu zs (hr.mono (by decide)) T.zag T.zae.kp T.zaa (zd (zh 1) (zd zl zj))) zl) zj)) (by with_unfolding_all rfl))
      (zm (zd1 (i := 7) zds.nd rfl (Or.inl rfl) (zv (zd (zh 5) (zd (zar zew (zh 5) (zu zs (hr.mono (by decide)) T.zag T.zae.kp T.zaa (zd (zh 1) (zd zl zj)))) (zd (zh 6) (zd (zar zew (zh 6) (zu zs (hr.mono (by decide)) T.zag T.zae.kp T.zaa (zd (zh 1) (zd zl zj)))) zj))))))
      (zm (zvy (i := 8) (j := 9) rfl zds.nd rfl rfl (by decide) rfl rfl (zd (zcz (zec T.ztu zcr (hr.mono (by decide)) T.zpd T.zh1 (zd (zzn (zh 2)) zj))) (zd (zcz (zec T.zy6 zdu (hr.mono (by decide)) T.zs7 T.zm8 (zd (zda (ixd hr.units) (zh 3) zl) (zd (zda (ixd hr.units) (zh 3) zl) (zd (zda (ixd hr.units) (zh 3) zl) (zd (zda (ixd hr.units) (zh 3) zl) (zd (zda (ixd hr.units) (zh 3) zl) zj))))))) zj)) (by with_unfolding_all rfl))
      (zm (zd1 (i := 10) zds.nd rfl (Or.inl rfl) (zcz (zec T.z3i zez (hr.mono (by decide)) T.zya T.zpj (zd (zh 8) (zd (zh 9) (zd (zh 4) (zd (zh 7) zj)))))))
      (zm (zb7 (zmv (zfa (zaq (znj hr.units) (z6 T.ziy T.zcv (zh 8)) (zcq zjq T.zfn zed (zd (zh 2) zj)) (nomark _)) (zf3 (zaq (znj hr.units) (zv (zd (z6 T.zbj T.zhs (zh 9)) (zd (z6 T.zbj T.zgt (zh 9)) (zd (z6 T.zbj T.zhg (zh 9)) (zd (z6 T.zbj T.zhx (zh 9)) (zd (z6 T.zbj T.zii (zh 9)) zj)))))) (zh 3) (nomark _)))))
      (zo (zat zn4))
      zam)
      (zm (zb7 (zmv (zfa (zaq (zt0 (P := zla) (hr.mono (by decide)) ⟨⟨_, _, _, zai, za0, fun d e b G Q p q => zq7 p q, T.zgp, T.zgv⟩, fun d e b p => zpk p⟩ T.zt3) (z6 T.zdo T.zet (zh 10)) (zh 8) (nomark _)) (zfa (zaq (zt0 (P := zo4) (hr.mono (by decide)) ⟨⟨_, _, _, zbt, zek, fun d e b G Q p q => zxa p q, T.zog, T.zoh⟩, fun d e b p => zuq p⟩ T.zy8) (z6 T.zdo T.zg7 (zh 10)) (zh 9) (nomark _)) (zfa (zaq (znj hr.units) (z6 T.zdo T.zeg (zh 10)) (zh 4) (nomark _)) (zf3 (zaq (znj hr.units) (z6 T.zdo T.zdj (zh 10)) (zh 7) (nomark _)))))))
      (zo (zat zn4))
      zam)
      (zm (zd1 (i := 11) zds.nd rfl (Or.inl rfl) (zk7 zj))
      (zm (zij PassesOwn.never rfl (zgw (zh 4)) (zaf (i := 12) zds.nd rfl (Or.inr rfl))
      (zo (zij PassesOwn.never rfl (zlf T.zl0 (zd (zda (ixd hr.units) (zh 7) zl) (zd (zar zew (zda (ixd hr.units) (zh 7) zl) zl) zj))) (zaf (i := 13) zds.nd rfl (Or.inr rfl))
      (zo (zd1 (i := 11) zds.nd rfl (Or.inl rfl) (zar zew (zh 11) (zcz (zj2 (own := [("b", 25)]) rfl zds.nd (zlf T.zl0 (zd (zda (ixd hr.units) (zh 7) zl) (zd (zar zew (zda (ixd hr.units) (zh 7) zl) zl) zj))) (blkOk_by (N := zu3) (sc := defScope zkj) (by decide +kernel)) (fun _ _ _ _ _ => (zaf (i := 25) zds.nd rfl (Or.inl rfl))) (fun _ _ _ _ _ => ze0) (fun _ _ _ _ _ => (zv (zd (zh 12) (zd (zh 13) (zd (zh 25) zj)))))))))))))
      (zm (zb7 (zaq (znj hr.units) (zft T.zdo T.zot zen (hr.mono (by decide)) T.zo1 (zh 10)) (zcq zjq T.zfn zed (zd (zh 11) zj)) (nomark _))
      (zo (zat zn4))
      zam)
      (zm (zd1 (i := 14) zds.nd rfl (Or.inl rfl) (zu zi2 (hr.mono (by decide)) T.zw7 T.zq6.kp T.zu5 (zd (zh 1) zj)))
      (zm (z0c (i := 15) (j := 16) (l := 17) rfl zds.nd rfl rfl rfl (by decide) (by decide) (by decide) rfl rfl rfl (zd (zcq zjq T.zfn zed (zd (zcz (zj2 (own := [("raw", 26)]) rfl zds.nd (zgw (zh 14)) (blkOk_by (N := zu3) (sc := defScope zkj) (by decide +kernel)) (fun _ _ _ _ _ => (zaf (i := 26) zds.nd rfl (Or.inl rfl))) (fun _ _ _ _ _ => ze0) (fun _ _ _ _ _ => (zu zht (hr.mono (by decide)) T.zut T.zps.kp T.zs1 (zd (zh 26) zj))))) zj)) (zd (zv (zd (zar zjb (zu zs (hr.mono (by decide)) T.zag T.zae.kp T.zaa (zd (zh 1) (zd zl zj))) zl) (zd (zar zjb (zu zs (hr.mono (by decide)) T.zag T.zae.kp T.zaa (zd (zh 1) (zd zl zj))) zl) zj))) (zd (zu zs (hr.mono (by decide)) T.zag T.zae.kp T.zaa (zd (zh 1) (zd zl zj))) zj))) (by with_unfolding_all rfl))
      (zm (zd1 (i := 18) zds.nd rfl (Or.inl rfl) (zcz (zec T.zrh zch (hr.mono (by decide)) T.zo9 T.zf4 (zd (zv (zd (zh 10) zj)) (zd (zh 16) (zd (zh 17) (zd (zh 15) zj)))))))
      (zm (zb7 (zmv (zfa (zaq (zy2 (P := zql) (n := 2) (hr.mono (by decide)) (zwn (P := zql) ⟨⟨_, _, _, zbk, zcj, fun d G Q p q => zyq p q, T.zmk, T.zmx⟩, fun d p => zv8 p⟩)) (z6 T.zd2 T.zim (zh 18)) (zv (zd (zh 10) zj)) (nomark _)) (zfa (zaq (znj hr.units) (z6 T.zd2 T.zjl (zh 18)) (zh 16) (nomark _)) (zfa (zaq (znj hr.units) (z6 T.zd2 T.zjv (zh 18)) (zh 17) (nomark _)) (zf3 (zaq (zy2 (P := zli) (n := 2) (hr.mono (by decide)) (zwn (P := zli) ⟨⟨_, _, _, zas, zbd, fun d G Q p q => zwx p q, T.zgi, T.zgd⟩, fun d p => ztl p⟩)) (z6 T.zd2 T.zgf (zh 18)) (zh 15) (nomark _)))))))
      (zo (zat zn4))
      zam)
      (zm (zij PassesOwn.never rfl (zzx T.z4l (zd (z6 T.zd2 T.zgf (zh 18)) (zd (zh 14) zj))) (zmf rfl (zbg (zaf (i := 19) zds.nd rfl (Or.inl rfl)) (zbg (zmf rfl (zbg (zaf (i := 20) zds.nd rfl (Or.inl rfl)) (zbg (zaf (i := 21) zds.nd rfl (Or.inl rfl)) (zbg (zaf (i := 22) zds.nd rfl (Or.inl rfl)) (zbg (zaf (i := 23) zds.nd rfl (Or.inl rfl)) zji))))) zji)))
      (zm (zb7 (zaq (znj hr.units) (zv (zd (z6 T.zex T.zh0 (zh 19)) (zd (z6 T.zex T.zkt (zh 19)) (zd (z6 T.zex T.zjd (zh 19)) (zd (z6 T.zex T.zjs (zh 19)) zj))))) (zv (zd (zh 20) (zd (zh 21) (zd (zh 22) (zd (zcq zjq T.zfn zed (zd (zcz (z8 (zw9 hr.units) T.zo8 zpb (zd (zh 23) zj))) zj)) zj))))) (nomark _))
      (zo (zat zn4))
      zam)
      (zo (zb7 (zmv (zfa (zaq (zt0 (P := zpe) (hr.mono (by decide)) ⟨⟨_, _, _, zas, zbd, fun d e b G Q p q => zwv p q, T.zgi, T.zgd⟩, fun d e b p => zt2 p⟩ T.z2d) (zh 19) (zcz (zec T.zl9 zn (hr.mono (by decide)) T.zjr T.zb9 (zd (zh 20) (zd (zh 21) (zd (zh 22) (zd (zh 23) zj)))))) (nomark _)) (zf3 (zaq (z05 (P := zpe) (hr.mono (by decide)) ⟨⟨_, _, _, zas, zbd, fun d e b G Q p q => zwv p q, T.zgi, T.zgd⟩, fun d e b p => zt2 p⟩) (zh 19) (zcz (zec T.zl9 zn (hr.mono (by decide)) T.zjr T.zb9 (zd (zh 20) (zd (zar zew (zh 21) zl) (zd (zh 22) (zd (zh 23) zj)))))) (nomark _)))))
      (zo (zat zn4))
      zam))))
      (zo (zat (zf2 (zfv (z05 (P := zl7) (hr.mono (by decide)) ⟨⟨_, _, _, zbl, zd8, fun d e b G Q p q => zth p q, T.zkq, T.zky⟩, fun d e b p => zq9 p⟩) (zh 18) (zcz (zec T.zrh zch (hr.mono (by decide)) T.zo9 T.zf4 (zd (zv (zd (zh 10) zj)) (zd (zh 16) (zd (zh 17) (zd (zh 15) zj)))))) (nomark _)) (zf2 (zfv (zt0 (P := zl7) (hr.mono (by decide)) ⟨⟨_, _, _, zbl, zd8, fun d e b G Q p q => zth p q, T.zkq, T.zky⟩, fun d e b p => zq9 p⟩ T.z0u) (zh 18) (zcz (zec T.zrh zch (hr.mono (by decide)) T.zo9 T.zf4 (zd (zv (zd (zh 10) zj)) (zd (zh 16) (zd (zar zew (zh 17) zl) (zd (zh 15) zj)))))) (nomark _)) (zjh (zfv (zt0 (P := zla) (hr.mono (by decide)) ⟨⟨_, _, _, zai, za0, fun d e b G Q p q => zq7 p q, T.zgp, T.zgv⟩, fun d e b p => zpk p⟩ T.zt3) (zh 8) (zcz (zec T.ztu zcr (hr.mono (by decide)) T.zpd T.zh1 (zd (zar zew (zh 2) (zk7 (zd (zv (zd zl (zd zl (zd zl zj)))) zj))) zj))) (nomark _)))))))))))))))))))))))))
theorem z39 (T : Txt K mg) (zek : FnD P w K mg base 2 T.zb5 T.zdr ["self", "other"] zbt) (zdu : FnD P w K mg base 2 T.zbi T.zcw ["self", "width", "height", "error", "false", "lost"] zbp) (zd8 : FnD P w K mg base 8 T.zcn T.zd6 ["self", "other"] zbl) (zch : FnD P w K mg base 6 T.zbr T.zc4 ["self", "skies", "foot", "room", "deeds"] za3) (zbd : FnD P w K mg base 4 T.zb0 T.zdh ["self", "other"] zas) (zn : FnD P w K mg base 4 T.z7 T.zac ["self", "kind", "fuel", "aim", "slips"] zq) (za0 : FnD P w K mg base 1 T.za7 T.zb1 ["self", "other"] zai) (zcr : FnD P w K mg base 3 T.zbh T.zcs ["self", "craters"] za5) (zcj : FnD P w K mg base 2 T.zck T.zdx ["self", "other"] zbk) (zez : FnD P w K mg base 2 T.zcl T.zd4 ["self", "ground", "camera", "turns", "area"] zcx) (zen : FnD P w K mg base 1 T.zb2 T.zdv ["self"] zcg) (zht : FnD P w K mg base 7 T.zeq T.zf6 ["raw"] zel) (zc0 : FnD P w K mg base 3 T.zdi T.zee ["draw", "items"] zb4) (zi2 : FnD P w K mg base 4 T.zfb T.zha ["draw"] ze7) (zs : FnD P w K mg base 2 T.zca T.zdn ["draw", "many"] zp) : FnD P w K mg base 12 T.zxl T.zzu ["script"] sp_law :=
  fn_d T.z46 zds z2c (z4o T zek zdu zd8 zch zbd zn za0 zcr zcj zez zen zht zc0 zi2 zs) z2p
end
section
variable {P : Program} {w : World} {K : PySem.W.Frag} {mg : Str → Option Value} {base : Heap}
theorem z4u (T : Txt K mg) : FnD P w K mg base 12 T.zxl T.zzu ["script"] sp_law := by
  have zr : FnD P w K mg base 1 T.zaz T.za6 ["thing", "low", "high"] zz := zu6 T
  have zix : FnD P w K mg base 2 T.ze8 T.zhb ["thing", "low", "high"] ze2 := zup T zr
  have zcr : FnD P w K mg base 3 T.zbh T.zcs ["self", "craters"] za5 := zmn T zix
  have zdu : FnD P w K mg base 2 T.zbi T.zcw ["self", "width", "height", "error", "false", "lost"] zbp := zm2 T zr
  have zby : FnD P w K mg base 2 T.zc6 T.zd7 ["thing"] zbx := zuo T zr
  have zhj : FnD P w K mg base 3 T.zeh T.zga ["kind", "aim"] zef := zuf T zby zr
  have zn : FnD P w K mg base 4 T.z7 T.zac ["self", "kind", "fuel", "aim", "slips"] zq := zor T zby zr zhj
  have zt4 : FnD P w K mg base 6 T.zn5 T.zrb ["fuel", "aim"] zlo := z1s T zn
  have zez : FnD P w K mg base 2 T.zcl T.zd4 ["self", "ground", "camera", "turns", "area"] zcx := zp1 T zr
  have za0 : FnD P w K mg base 1 T.za7 T.zb1 ["self", "other"] zai := zoj T
  have zdp : FnD P w K mg base 5 T.zbf T.zct ["skies"] zbm := zmy T za0
  have zch : FnD P w K mg base 6 T.zbr T.zc4 ["self", "skies", "foot", "room", "deeds"] za3 := znp T zdp zby zr
  have zfi : FnD P w K mg base 1 T.zdb T.zev ["script", "index"] zdm := zqv T
  have zs : FnD P w K mg base 2 T.zca T.zdn ["draw", "many"] zp := zub T zfi
  have zc0 : FnD P w K mg base 3 T.zdi T.zee ["draw", "items"] zb4 := zul T zs
  have zui : FnD P w K mg base 6 T.zn9 T.zra ["fuel", "aim"] zl2 := z20 T zn
  have ztc : FnD P w K mg base 6 T.zob T.zq0 ["fuel", "aim", "slips"] zl8 := z1r T zn
  have ztk : FnD P w K mg base 6 T.zn8 T.zq3 ["fuel", "slips"] zln := z12 T zn
  have zta : FnD P w K mg base 6 T.zn3 T.zq2 ["fuel"] zly := z1p T zn
  have zen : FnD P w K mg base 1 T.zb2 T.zdv ["self"] zcg := zon T
  have za9 : FnD P w K mg base 1 T.zbz T.zdf ["self"] za2 := zqq T
  have zek : FnD P w K mg base 2 T.zb5 T.zdr ["self", "other"] zbt := zow T za9
  have zcj : FnD P w K mg base 2 T.zck T.zdx ["self", "other"] zbk := zst T za9
  have zfz : FnD P w K mg base 1 T.zei T.zf7 ["self"] zdy := ztf T
  have zbd : FnD P w K mg base 4 T.zb0 T.zdh ["self", "other"] zas := zqn T zfz
  have zfd : FnD P w K mg base 1 T.zdz T.zfc ["self"] zde := zsu T
  have zd8 : FnD P w K mg base 8 T.zcn T.zd6 ["self", "other"] zbl := zpn T zfd zbd zcj
  have zi2 : FnD P w K mg base 4 T.zfb T.zha ["draw"] ze7 := zv2 T zc0 zs
  have zht : FnD P w K mg base 7 T.zeq T.zf6 ["raw"] zel := zti T zta ztk zui ztc zt4
  exact z39 T zek zdu zd8 zch zbd zn za0 zcr zcj zez zen zht zc0 zi2 zs
end
omit [CA] in
theorem z4j {l : PySem.W.OpenLaw} {w : World} {K : PySem.W.Frag} {h : Heap} {mg : Str → Option Value} {fa f0 f1 f2 f3 f4 f5 f6 f7 f8 f9 f10 f11 f12 f13 f14 f15 f16 f17 f18 f19 f20 f21 f22 f23 f24 f25 f26 f27 f28 f29 c_Ground c_Camera c_Sky c_Deed c_Craft : Addr} (X : K.In h) (G : h.Ns mainGlobals mg) (hfa : mg "law" = some (.ref fa))
    {ga_KINDS : Addr} {god_KINDS : Option Addr} {gits_KINDS : Array Value} {gn_KINDS : Nat} {gsl_KINDS : Array (Option Value)}
    {od0 od1 od2 od3 od4 od5 od6 od7 od8 od9 od10 od11 od12 od13 od14 od15 od16 od17 od18 od19 od20 od21 od22 od23 od24 od25 od26 od27 od28 od29 an0 an1 an2 an3 an4 an5 an6 an7 an8 an9 an10 an11 an12 an13 an14 an15 an16 an17 an18 an19 an20 an21 an22 an23 an24 an25 an26 an27 an28 an29 : Option Addr} {sl0 sl1 sl2 sl3 sl4 sl5 sl6 sl7 sl8 sl9 sl10 sl11 sl12 sl13 sl14 sl15 sl16 sl17 sl18 sl19 sl20 sl21 sl22 sl23 sl24 sl25 sl26 sl27 sl28 sl29 : Array (Option Value)} {oc0 oc1 oc2 oc3 oc4 oc5 oc6 oc7 oc8 oc9 oc10 oc11 oc12 oc13 oc14 oc15 oc16 oc17 oc18 oc19 oc20 oc21 oc22 oc23 oc24 oc25 oc26 oc27 oc28 oc29 kV0 kV1 kV2 kV3 kV4 kV5 kV6 kV7 kV8 kV9 kV10 kV11 kV12 kV13 kV14 kV15 kV16 kV17 kV18 kV19 kV20 kV21 kV22 kV23 kV24 kV25 kV26 kV27 kV28 kV29 dc0 dc1 dc2 dc3 dc4 dc5 dc6 dc7 dc8 dc9 dc10 dc11 dc12 dc13 dc14 dc15 dc16 dc17 dc18 dc19 dc20 dc21 dc22 dc23 dc24 dc25 dc26 dc27 dc28 dc29 pm0 pm1 pm2 pm3 pm4 pm5 pm6 pm7 pm8 pm9 pm10 pm11 pm12 pm13 pm14 pm15 pm16 pm17 pm18 pm19 pm20 pm21 pm22 pm23 pm24 pm25 pm26 pm27 pm28 pm29 cd0 cd1 cd2 cd3 cd4 cd5 cd6 cd7 cd8 cd9 cd10 cd11 cd12 cd13 cd14 cd15 cd16 cd17 cd18 cd19 cd20 cd21 cd22 cd23 cd24 cd25 cd26 cd27 cd28 cd29 ct0 ct1 ct2 ct3 ct4 ct5 ct6 ct7 ct8 ct9 ct10 ct11 ct12 ct13 ct14 ct15 ct16 ct17 ct18 ct19 ct20 ct21 ct22 ct23 ct24 ct25 ct26 ct27 ct28 ct29 : Value}
    (e_Ground : PySem.W.nsIn K mainGlobals "Ground" = some (some (.ref c_Ground)))
    (e_Camera : PySem.W.nsIn K mainGlobals "Camera" = some (some (.ref c_Camera)))
    (e_Sky : PySem.W.nsIn K mainGlobals "Sky" = some (some (.ref c_Sky)))
    (e_Deed : PySem.W.nsIn K mainGlobals "Deed" = some (some (.ref c_Deed)))
    (e_Craft : PySem.W.nsIn K mainGlobals "Craft" = some (some (.ref c_Craft)))
    (a0 : PySem.W.nsIn K mainGlobals "is_whole" = some (some (.ref f0)))
    (l0 : K.lookup f0 = some ⟨oc0, od0, .func (PySem.W.fnOf "is_whole" "is_whole" (defArgs zc3) (defBody zc3) (defScope zc3) .none kV0 dc0 pm0 an0 cd0 ct0), sl0⟩)
    (c0 : PySem.W.codeIn K cd0 "is_whole" = true)
    (k0 : PySem.W.keepIn K (.ref f0) = true)
    (a1 : PySem.W.nsIn K mainGlobals "is_point" = some (some (.ref f1)))
    (l1 : K.lookup f1 = some ⟨oc1, od1, .func (PySem.W.fnOf "is_point" "is_point" (defArgs zc9) (defBody zc9) (defScope zc9) .none kV1 dc1 pm1 an1 cd1 ct1), sl1⟩)
    (c1 : PySem.W.codeIn K cd1 "is_point" = true)
    (k1 : PySem.W.keepIn K (.ref f1) = true)
    (a2 : PySem.W.findIn K (.ref c_Ground) "__init__" = some (some (.ref f2)))
    (i2 : PySem.W.isFn K (.ref f2) = true)
    (l2 : K.lookup f2 = some ⟨oc2, od2, .func (PySem.W.fnOf "__init__" "Ground.__init__" (defArgs zaj) (defBody zaj) (defScope zaj) .none kV2 dc2 pm2 an2 cd2 ct2), sl2⟩)
    (c2 : PySem.W.codeIn K cd2 "Ground.__init__" = true)
    (k2 : PySem.W.keepIn K (.ref f2) = true)
    (a3 : PySem.W.findIn K (.ref c_Camera) "__init__" = some (some (.ref f3)))
    (i3 : PySem.W.isFn K (.ref f3) = true)
    (l3 : K.lookup f3 = some ⟨oc3, od3, .func (PySem.W.fnOf "__init__" "Camera.__init__" (defArgs zah) (defBody zah) (defScope zah) .none kV3 dc3 pm3 an3 cd3 ct3), sl3⟩)
    (c3 : PySem.W.codeIn K cd3 "Camera.__init__" = true)
    (k3 : PySem.W.keepIn K (.ref f3) = true)
    (a4 : PySem.W.nsIn K mainGlobals "is_shift" = some (some (.ref f4)))
    (l4 : K.lookup f4 = some ⟨oc4, od4, .func (PySem.W.fnOf "is_shift" "is_shift" (defArgs zcu) (defBody zcu) (defScope zcu) .none kV4 dc4 pm4 an4 cd4 ct4), sl4⟩)
    (c4 : PySem.W.codeIn K cd4 "is_shift" = true)
    (k4 : PySem.W.keepIn K (.ref f4) = true)
    (a5 : PySem.W.nsIn K mainGlobals "wrong_aim" = some (some (.ref f5)))
    (l5 : K.lookup f5 = some ⟨oc5, od5, .func (PySem.W.fnOf "wrong_aim" "wrong_aim" (defArgs zcf) (defBody zcf) (defScope zcf) .none kV5 dc5 pm5 an5 cd5 ct5), sl5⟩)
    (c5 : PySem.W.codeIn K cd5 "wrong_aim" = true)
    (k5 : PySem.W.keepIn K (.ref f5) = true)
    (a6 : PySem.W.findIn K (.ref c_Deed) "__init__" = some (some (.ref f6)))
    (i6 : PySem.W.isFn K (.ref f6) = true)
    (l6 : K.lookup f6 = some ⟨oc6, od6, .func (PySem.W.fnOf "__init__" "Deed.__init__" (defArgs zap) (defBody zap) (defScope zap) .none kV6 dc6 pm6 an6 cd6 ct6), sl6⟩)
    (c6 : PySem.W.codeIn K cd6 "Deed.__init__" = true)
    (k6 : PySem.W.keepIn K (.ref f6) = true)
    (a7 : PySem.W.nsIn K mainGlobals "turn" = some (some (.ref f7)))
    (l7 : K.lookup f7 = some ⟨oc7, od7, .func (PySem.W.fnOf "turn" "turn" (defArgs zj9) (defBody zj9) (defScope zj9) .none kV7 dc7 pm7 an7 cd7 ct7), sl7⟩)
    (c7 : PySem.W.codeIn K cd7 "turn" = true)
    (k7 : PySem.W.keepIn K (.ref f7) = true)
    (a8 : PySem.W.findIn K (.ref c_Sky) "__init__" = some (some (.ref f8)))
    (i8 : PySem.W.isFn K (.ref f8) = true)
    (l8 : K.lookup f8 = some ⟨oc8, od8, .func (PySem.W.fnOf "__init__" "Sky.__init__" (defArgs zal) (defBody zal) (defScope zal) .none kV8 dc8 pm8 an8 cd8 ct8), sl8⟩)
    (c8 : PySem.W.codeIn K cd8 "Sky.__init__" = true)
    (k8 : PySem.W.keepIn K (.ref f8) = true)
    (a9 : PySem.W.findIn K (.ref c_Ground) "__eq__" = some (some (.ref f9)))
    (i9 : PySem.W.isFn K (.ref f9) = true)
    (l9 : K.lookup f9 = some ⟨oc9, od9, .func (PySem.W.fnOf "__eq__" "Ground.__eq__" (defArgs zav) (defBody zav) (defScope zav) .none kV9 dc9 pm9 an9 cd9 ct9), sl9⟩)
    (c9 : PySem.W.codeIn K cd9 "Ground.__eq__" = true)
    (k9 : PySem.W.keepIn K (.ref f9) = true)
    (a10 : PySem.W.nsIn K mainGlobals "have_one_ground" = some (some (.ref f10)))
    (l10 : K.lookup f10 = some ⟨oc10, od10, .func (PySem.W.fnOf "have_one_ground" "have_one_ground" (defArgs zad) (defBody zad) (defScope zad) .none kV10 dc10 pm10 an10 cd10 ct10), sl10⟩)
    (c10 : PySem.W.codeIn K cd10 "have_one_ground" = true)
    (k10 : PySem.W.keepIn K (.ref f10) = true)
    (a11 : PySem.W.findIn K (.ref c_Craft) "__init__" = some (some (.ref f11)))
    (i11 : PySem.W.isFn K (.ref f11) = true)
    (l11 : K.lookup f11 = some ⟨oc11, od11, .func (PySem.W.fnOf "__init__" "Craft.__init__" (defArgs z9) (defBody z9) (defScope z9) .none kV11 dc11 pm11 an11 cd11 ct11), sl11⟩)
    (c11 : PySem.W.codeIn K cd11 "Craft.__init__" = true)
    (k11 : PySem.W.keepIn K (.ref f11) = true)
    (a12 : PySem.W.nsIn K mainGlobals "_law_number" = some (some (.ref f12)))
    (l12 : K.lookup f12 = some ⟨oc12, od12, .func (PySem.W.fnOf "_law_number" "_law_number" (defArgs zbb) (defBody zbb) (defScope zbb) .none kV12 dc12 pm12 an12 cd12 ct12), sl12⟩)
    (c12 : PySem.W.codeIn K cd12 "_law_number" = true)
    (k12 : PySem.W.keepIn K (.ref f12) = true)
    (a13 : PySem.W.nsIn K mainGlobals "_law_take" = some (some (.ref f13)))
    (l13 : K.lookup f13 = some ⟨oc13, od13, .func (PySem.W.fnOf "_law_take" "_law_take" (defArgs zce) (defBody zce) (defScope zce) .none kV13 dc13 pm13 an13 cd13 ct13), sl13⟩)
    (c13 : PySem.W.codeIn K cd13 "_law_take" = true)
    (k13 : PySem.W.keepIn K (.ref f13) = true)
    (a14 : PySem.W.nsIn K mainGlobals "_law_pick" = some (some (.ref f14)))
    (l14 : K.lookup f14 = some ⟨oc14, od14, .func (PySem.W.fnOf "_law_pick" "_law_pick" (defArgs zcc) (defBody zcc) (defScope zcc) .none kV14 dc14 pm14 an14 cd14 ct14), sl14⟩)
    (c14 : PySem.W.codeIn K cd14 "_law_pick" = true)
    (k14 : PySem.W.keepIn K (.ref f14) = true)
    (a15 : PySem.W.nsIn K mainGlobals "look" = some (some (.ref f15)))
    (l15 : K.lookup f15 = some ⟨oc15, od15, .func (PySem.W.fnOf "look" "look" (defArgs zj1) (defBody zj1) (defScope zj1) .none kV15 dc15 pm15 an15 cd15 ct15), sl15⟩)
    (c15 : PySem.W.codeIn K cd15 "look" = true)
    (k15 : PySem.W.keepIn K (.ref f15) = true)
    (a16 : PySem.W.nsIn K mainGlobals "step" = some (some (.ref f16)))
    (l16 : K.lookup f16 = some ⟨oc16, od16, .func (PySem.W.fnOf "step" "step" (defArgs zkh) (defBody zkh) (defScope zkh) .none kV16 dc16 pm16 an16 cd16 ct16), sl16⟩)
    (c16 : PySem.W.codeIn K cd16 "step" = true)
    (k16 : PySem.W.keepIn K (.ref f16) = true)
    (a17 : PySem.W.nsIn K mainGlobals "land" = some (some (.ref f17)))
    (l17 : K.lookup f17 = some ⟨oc17, od17, .func (PySem.W.fnOf "land" "land" (defArgs zkg) (defBody zkg) (defScope zkg) .none kV17 dc17 pm17 an17 cd17 ct17), sl17⟩)
    (c17 : PySem.W.codeIn K cd17 "land" = true)
    (k17 : PySem.W.keepIn K (.ref f17) = true)
    (a18 : PySem.W.nsIn K mainGlobals "away" = some (some (.ref f18)))
    (l18 : K.lookup f18 = some ⟨oc18, od18, .func (PySem.W.fnOf "away" "away" (defArgs zj4) (defBody zj4) (defScope zj4) .none kV18 dc18 pm18 an18 cd18 ct18), sl18⟩)
    (c18 : PySem.W.codeIn K cd18 "away" = true)
    (k18 : PySem.W.keepIn K (.ref f18) = true)
    (a19 : PySem.W.findIn K (.ref c_Sky) "standings" = some (some (.ref f19)))
    (i19 : PySem.W.isFn K (.ref f19) = true)
    (l19 : K.lookup f19 = some ⟨oc19, od19, .func (PySem.W.fnOf "standings" "Sky.standings" (defArgs zaw) (defBody zaw) (defScope zaw) .none kV19 dc19 pm19 an19 cd19 ct19), sl19⟩)
    (c19 : PySem.W.codeIn K cd19 "Sky.standings" = true)
    (k19 : PySem.W.keepIn K (.ref f19) = true)
    (a20 : PySem.W.findIn K (.ref c_Camera) "told" = some (some (.ref f20)))
    (i20 : PySem.W.isFn K (.ref f20) = true)
    (l20 : K.lookup f20 = some ⟨oc20, od20, .func (PySem.W.fnOf "told" "Camera.told" (defArgs zbc) (defBody zbc) (defScope zbc) .none kV20 dc20 pm20 an20 cd20 ct20), sl20⟩)
    (c20 : PySem.W.codeIn K cd20 "Camera.told" = true)
    (k20 : PySem.W.keepIn K (.ref f20) = true)
    (a21 : PySem.W.findIn K (.ref c_Camera) "__eq__" = some (some (.ref f21)))
    (i21 : PySem.W.isFn K (.ref f21) = true)
    (l21 : K.lookup f21 = some ⟨oc21, od21, .func (PySem.W.fnOf "__eq__" "Camera.__eq__" (defArgs zau) (defBody zau) (defScope zau) .none kV21 dc21 pm21 an21 cd21 ct21), sl21⟩)
    (c21 : PySem.W.codeIn K cd21 "Camera.__eq__" = true)
    (k21 : PySem.W.keepIn K (.ref f21) = true)
    (a22 : PySem.W.findIn K (.ref c_Sky) "__eq__" = some (some (.ref f22)))
    (i22 : PySem.W.isFn K (.ref f22) = true)
    (l22 : K.lookup f22 = some ⟨oc22, od22, .func (PySem.W.fnOf "__eq__" "Sky.__eq__" (defArgs zbs) (defBody zbs) (defScope zbs) .none kV22 dc22 pm22 an22 cd22 ct22), sl22⟩)
    (c22 : PySem.W.codeIn K cd22 "Sky.__eq__" = true)
    (k22 : PySem.W.keepIn K (.ref f22) = true)
    (a23 : PySem.W.findIn K (.ref c_Deed) "told" = some (some (.ref f23)))
    (i23 : PySem.W.isFn K (.ref f23) = true)
    (l23 : K.lookup f23 = some ⟨oc23, od23, .func (PySem.W.fnOf "told" "Deed.told" (defArgs zcd) (defBody zcd) (defScope zcd) .none kV23 dc23 pm23 an23 cd23 ct23), sl23⟩)
    (c23 : PySem.W.codeIn K cd23 "Deed.told" = true)
    (k23 : PySem.W.keepIn K (.ref f23) = true)
    (a24 : PySem.W.findIn K (.ref c_Deed) "__eq__" = some (some (.ref f24)))
    (i24 : PySem.W.isFn K (.ref f24) = true)
    (l24 : K.lookup f24 = some ⟨oc24, od24, .func (PySem.W.fnOf "__eq__" "Deed.__eq__" (defArgs za8) (defBody za8) (defScope za8) .none kV24 dc24 pm24 an24 cd24 ct24), sl24⟩)
    (c24 : PySem.W.codeIn K cd24 "Deed.__eq__" = true)
    (k24 : PySem.W.keepIn K (.ref f24) = true)
    (a25 : PySem.W.findIn K (.ref c_Craft) "told" = some (some (.ref f25)))
    (i25 : PySem.W.isFn K (.ref f25) = true)
    (l25 : K.lookup f25 = some ⟨oc25, od25, .func (PySem.W.fnOf "told" "Craft.told" (defArgs zbq) (defBody zbq) (defScope zbq) .none kV25 dc25 pm25 an25 cd25 ct25), sl25⟩)
    (c25 : PySem.W.codeIn K cd25 "Craft.told" = true)
    (k25 : PySem.W.keepIn K (.ref f25) = true)
    (a26 : PySem.W.findIn K (.ref c_Craft) "__eq__" = some (some (.ref f26)))
    (i26 : PySem.W.isFn K (.ref f26) = true)
    (l26 : K.lookup f26 = some ⟨oc26, od26, .func (PySem.W.fnOf "__eq__" "Craft.__eq__" (defArgs za1) (defBody za1) (defScope za1) .none kV26 dc26 pm26 an26 cd26 ct26), sl26⟩)
    (c26 : PySem.W.codeIn K cd26 "Craft.__eq__" = true)
    (k26 : PySem.W.keepIn K (.ref f26) = true)
    (a27 : PySem.W.nsIn K mainGlobals "_law_raw" = some (some (.ref f27)))
    (l27 : K.lookup f27 = some ⟨oc27, od27, .func (PySem.W.fnOf "_law_raw" "_law_raw" (defArgs zc7) (defBody zc7) (defScope zc7) .none kV27 dc27 pm27 an27 cd27 ct27), sl27⟩)
    (c27 : PySem.W.codeIn K cd27 "_law_raw" = true)
    (k27 : PySem.W.keepIn K (.ref f27) = true)
    (a28 : PySem.W.nsIn K mainGlobals "_law_made" = some (some (.ref f28)))
    (l28 : K.lookup f28 = some ⟨oc28, od28, .func (PySem.W.fnOf "_law_made" "_law_made" (defArgs zcb) (defBody zcb) (defScope zcb) .none kV28 dc28 pm28 an28 cd28 ct28), sl28⟩)
    (c28 : PySem.W.codeIn K cd28 "_law_made" = true)
    (k28 : PySem.W.keepIn K (.ref f28) = true)
    (a29 : PySem.W.nsIn K mainGlobals "law" = some (some (.ref f29)))
    (l29 : K.lookup f29 = some ⟨oc29, od29, .func (PySem.W.fnOf "law" "law" (defArgs zkj) (defBody zkj) (defScope zkj) .none kV29 dc29 pm29 an29 cd29 ct29), sl29⟩)
    (c29 : PySem.W.codeIn K cd29 "law" = true)
    (k29 : PySem.W.keepIn K (.ref f29) = true)
    (pg_Ground : PySem.W.plainGet K c_Ground Str.empty = true)
    (hd_Ground : PySem.W.hasDictIn K c_Ground = true)
    (po_Ground : PySem.W.plainOver K c_Ground = true)
    (sa_Ground : PySem.W.findIn K (.ref c_Ground) "__setattr__" = some (some (.builtin "object.__setattr__")))
    (ow_Ground : PySem.W.findIn K (.ref c_Ground) "__class__" = some (some (.builtin "object.__class__")))
    (ob_Ground : PySem.W.mroIn K c_Ground (.type "object") = some true)
    (mks_Ground : PySem.W.makesIn K c_Ground = true)
    (kp_Ground : PySem.W.keepIn K (.ref c_Ground) = true)
    (pg_Camera : PySem.W.plainGet K c_Camera Str.empty = true)
    (hd_Camera : PySem.W.hasDictIn K c_Camera = true)
    (po_Camera : PySem.W.plainOver K c_Camera = true)
    (sa_Camera : PySem.W.findIn K (.ref c_Camera) "__setattr__" = some (some (.builtin "object.__setattr__")))
    (ow_Camera : PySem.W.findIn K (.ref c_Camera) "__class__" = some (some (.builtin "object.__class__")))
    (ob_Camera : PySem.W.mroIn K c_Camera (.type "object") = some true)
    (mks_Camera : PySem.W.makesIn K c_Camera = true)
    (kp_Camera : PySem.W.keepIn K (.ref c_Camera) = true)
    (pg_Sky : PySem.W.plainGet K c_Sky Str.empty = true)
    (hd_Sky : PySem.W.hasDictIn K c_Sky = true)
    (po_Sky : PySem.W.plainOver K c_Sky = true)
    (sa_Sky : PySem.W.findIn K (.ref c_Sky) "__setattr__" = some (some (.builtin "object.__setattr__")))
    (ow_Sky : PySem.W.findIn K (.ref c_Sky) "__class__" = some (some (.builtin "object.__class__")))
    (ob_Sky : PySem.W.mroIn K c_Sky (.type "object") = some true)
    (mks_Sky : PySem.W.makesIn K c_Sky = true)
    (kp_Sky : PySem.W.keepIn K (.ref c_Sky) = true)
    (pg_Deed : PySem.W.plainGet K c_Deed Str.empty = true)
    (hd_Deed : PySem.W.hasDictIn K c_Deed = true)
    (po_Deed : PySem.W.plainOver K c_Deed = true)
    (sa_Deed : PySem.W.findIn K (.ref c_Deed) "__setattr__" = some (some (.builtin "object.__setattr__")))
    (ow_Deed : PySem.W.findIn K (.ref c_Deed) "__class__" = some (some (.builtin "object.__class__")))
    (ob_Deed : PySem.W.mroIn K c_Deed (.type "object") = some true)
    (mks_Deed : PySem.W.makesIn K c_Deed = true)
    (kp_Deed : PySem.W.keepIn K (.ref c_Deed) = true)
    (pg_Craft : PySem.W.plainGet K c_Craft Str.empty = true)
    (hd_Craft : PySem.W.hasDictIn K c_Craft = true)
    (po_Craft : PySem.W.plainOver K c_Craft = true)
    (sa_Craft : PySem.W.findIn K (.ref c_Craft) "__setattr__" = some (some (.builtin "object.__setattr__")))
    (ow_Craft : PySem.W.findIn K (.ref c_Craft) "__class__" = some (some (.builtin "object.__class__")))
    (ob_Craft : PySem.W.mroIn K c_Craft (.type "object") = some true)
    (mks_Craft : PySem.W.makesIn K c_Craft = true)
    (kp_Craft : PySem.W.keepIn K (.ref c_Craft) = true)
    (gs_ : PySem.W.specialIn K (.builtin "object.__class__") "__get__" = some (some (.builtin "getset_descriptor.__get__")))
    (tk_ : PySem.W.takesIn K (.builtin "object.__class__") = some true)
    (nb_Camera : PySem.W.findIn K (.ref c_Camera) "__ne__" = some (some (.builtin "object.__ne__")))
    (nb_Ground : PySem.W.findIn K (.ref c_Ground) "__ne__" = some (some (.builtin "object.__ne__")))
    (nb_Deed : PySem.W.findIn K (.ref c_Deed) "__ne__" = some (some (.builtin "object.__ne__")))
    (nb_Craft : PySem.W.findIn K (.ref c_Craft) "__ne__" = some (some (.builtin "object.__ne__")))
    (n_Ground_craters : PySem.W.findIn K (.ref c_Ground) "craters" = some none)
    (n_Camera_width : PySem.W.findIn K (.ref c_Camera) "width" = some none)
    (n_Camera_height : PySem.W.findIn K (.ref c_Camera) "height" = some none)
    (n_Camera_error : PySem.W.findIn K (.ref c_Camera) "error" = some none)
    (n_Camera_false : PySem.W.findIn K (.ref c_Camera) "false" = some none)
    (n_Camera_lost : PySem.W.findIn K (.ref c_Camera) "lost" = some none)
    (n_Deed_kind : PySem.W.findIn K (.ref c_Deed) "kind" = some none)
    (n_Deed_fuel : PySem.W.findIn K (.ref c_Deed) "fuel" = some none)
    (n_Deed_aim : PySem.W.findIn K (.ref c_Deed) "aim" = some none)
    (n_Deed_slips : PySem.W.findIn K (.ref c_Deed) "slips" = some none)
    (n_Sky_ground : PySem.W.findIn K (.ref c_Sky) "ground" = some none)
    (n_Sky_camera : PySem.W.findIn K (.ref c_Sky) "camera" = some none)
    (n_Sky_turns : PySem.W.findIn K (.ref c_Sky) "turns" = some none)
    (n_Sky_area : PySem.W.findIn K (.ref c_Sky) "area" = some none)
    (n_Craft_skies : PySem.W.findIn K (.ref c_Craft) "skies" = some none)
    (n_Craft_foot : PySem.W.findIn K (.ref c_Craft) "foot" = some none)
    (n_Craft_room : PySem.W.findIn K (.ref c_Craft) "room" = some none)
    (n_Craft_deeds : PySem.W.findIn K (.ref c_Craft) "deeds" = some none)
    (gt_KINDS : PySem.W.nsIn K mainGlobals "KINDS" = some (some (.ref ga_KINDS)))
    (gl_KINDS : K.lookup ga_KINDS = some ⟨.type "tuple", god_KINDS, .seq gits_KINDS gn_KINDS, gsl_KINDS⟩)
    (dec_gs_KINDS : zey ["step", "turn", "look", "land", "away"] gits_KINDS.toList = true)
    (dec_gz_KINDS : gits_KINDS.size ≤ sizeLine)
    (z_bool : PySem.W.nsIn K mainGlobals "bool" = some none)
    (z_isinstance : PySem.W.nsIn K mainGlobals "isinstance" = some none)
    (z_int : PySem.W.nsIn K mainGlobals "int" = some none)
    (z_len : PySem.W.nsIn K mainGlobals "len" = some none)
    (z_tuple : PySem.W.nsIn K mainGlobals "tuple" = some none)
    (z_enumerate : PySem.W.nsIn K mainGlobals "enumerate" = some none)
    (z_sorted : PySem.W.nsIn K mainGlobals "sorted" = some none)
    (z_all : PySem.W.nsIn K mainGlobals "all" = some none)
    (z_set : PySem.W.nsIn K mainGlobals "set" = some none)
    (z_zip : PySem.W.nsIn K mainGlobals "zip" = some none)
    (z_any : PySem.W.nsIn K mainGlobals "any" = some none)
    (z_range : PySem.W.nsIn K mainGlobals "range" = some none)
    (q_MOST_SIZE : ∃ t, PySem.W.nsIn K mainGlobals "MOST_SIZE" = some (some (.int 99 t)))
    (q_MOST_PLACE : ∃ t, PySem.W.nsIn K mainGlobals "MOST_PLACE" = some (some (.int 1000000 t)))
    (q_MOST_COUNT : ∃ t, PySem.W.nsIn K mainGlobals "MOST_COUNT" = some (some (.int 100 t)))
    (q_MOST_SIDE : ∃ t, PySem.W.nsIn K mainGlobals "MOST_SIDE" = some (some (.int 1000 t)))
    (q_MOST : ∃ t, PySem.W.nsIn K mainGlobals "MOST" = some (some (.int 1000 t)))
    (q_MOST_STANDINGS : ∃ t, PySem.W.nsIn K mainGlobals "MOST_STANDINGS" = some (some (.int 40000 t)))
    (q_MOST_ROOM : ∃ t, PySem.W.nsIn K mainGlobals "MOST_ROOM" = some (some (.int 1000 t)))
    : ∃ fd : FuncData, (∀ (s : Shared) (v : Value), BindsTo s fd ⟨[v], []⟩ [("script", v)]) ∧ ∀ base : Heap, K.In base → base.Ns mainGlobals mg → FnD l.prog w K mg base 12 fa fd ["script"] DL.zzg := by
  have e := hfa.symm.trans (PySem.W.mg_of X G a29)
  cases e
  letI : CA := ⟨0, 0, 0, 0, 0, 0, c_Ground, c_Camera, c_Sky, 0, 0, 0, 0, 0, 0, 0, 0, 0, 0, c_Deed, c_Craft, 0, 0, 0, 0, 0, 0, 0⟩
  have F0 := fun_mk (st := zc3) l0 c0 k0
  have F1 := fun_mk (st := zc9) l1 c1 k1
  have F2 := fun_mk (st := zaj) l2 c2 k2
  have F3 := fun_mk (st := zah) l3 c3 k3
  have F4 := fun_mk (st := zcu) l4 c4 k4
  have F5 := fun_mk (st := zcf) l5 c5 k5
  have F6 := fun_mk (st := zap) l6 c6 k6
  have F7 := fun_mk (st := zj9) l7 c7 k7
  have F8 := fun_mk (st := zal) l8 c8 k8
  have F9 := fun_mk (st := zav) l9 c9 k9
  have F10 := fun_mk (st := zad) l10 c10 k10
  have F11 := fun_mk (st := z9) l11 c11 k11
  have F12 := fun_mk (st := zbb) l12 c12 k12
  have F13 := fun_mk (st := zce) l13 c13 k13
  have F14 := fun_mk (st := zcc) l14 c14 k14
  have F15 := fun_mk (st := zj1) l15 c15 k15
  have F16 := fun_mk (st := zkh) l16 c16 k16
  have F17 := fun_mk (st := zkg) l17 c17 k17
  have F18 := fun_mk (st := zj4) l18 c18 k18
  have F19 := fun_mk (st := zaw) l19 c19 k19
  have F20 := fun_mk (st := zbc) l20 c20 k20
  have F21 := fun_mk (st := zau) l21 c21 k21
  have F22 := fun_mk (st := zbs) l22 c22 k22
  have F23 := fun_mk (st := zcd) l23 c23 k23
  have F24 := fun_mk (st := za8) l24 c24 k24
  have F25 := fun_mk (st := zbq) l25 c25 k25
  have F26 := fun_mk (st := za1) l26 c26 k26
  have F27 := fun_mk (st := zc7) l27 c27 k27
  have F28 := fun_mk (st := zcb) l28 c28 k28
  have F29 := fun_mk (st := zkj) l29 c29 k29
  have B0 := F0.binds (ps := ["thing", "low", "high"]) fun _ _ _ _ _ _ us hl => match us, hl with | [_, _, _], _ => rfl
  have B1 := F1.binds (ps := ["thing", "low", "high"]) fun _ _ _ _ _ _ us hl => match us, hl with | [_, _, _], _ => rfl
  have B2 := F2.binds (ps := ["self", "craters"]) fun _ _ _ _ _ _ us hl => match us, hl with | [_, _], _ => rfl
  have B3 := F3.binds (ps := ["self", "width", "height", "error", "false", "lost"]) fun _ _ _ _ _ _ us hl => match us, hl with | [_, _, _, _, _, _], _ => rfl
  have B4 := F4.binds (ps := ["thing"]) fun _ _ _ _ _ _ us hl => match us, hl with | [_], _ => rfl
  have B5 := F5.binds (ps := ["kind", "aim"]) fun _ _ _ _ _ _ us hl => match us, hl with | [_, _], _ => rfl
  have B6 := F6.binds (ps := ["self", "kind", "fuel", "aim", "slips"]) fun _ _ _ _ _ _ us hl => match us, hl with | [_, _, _, _, _], _ => rfl
  have B7 := F7.binds (ps := ["fuel", "aim"]) fun _ _ _ _ _ _ us hl => match us, hl with | [_, _], _ => rfl
  have B8 := F8.binds (ps := ["self", "ground", "camera", "turns", "area"]) fun _ _ _ _ _ _ us hl => match us, hl with | [_, _, _, _, _], _ => rfl
  have B9 := F9.binds (ps := ["self", "other"]) fun _ _ _ _ _ _ us hl => match us, hl with | [_, _], _ => rfl
  have B10 := F10.binds (ps := ["skies"]) fun _ _ _ _ _ _ us hl => match us, hl with | [_], _ => rfl
  have B11 := F11.binds (ps := ["self", "skies", "foot", "room", "deeds"]) fun _ _ _ _ _ _ us hl => match us, hl with | [_, _, _, _, _], _ => rfl
  have B12 := F12.binds (ps := ["script", "index"]) fun _ _ _ _ _ _ us hl => match us, hl with | [_, _], _ => rfl
  have B13 := F13.binds (ps := ["draw", "many"]) fun _ _ _ _ _ _ us hl => match us, hl with | [_, _], _ => rfl
  have B14 := F14.binds (ps := ["draw", "items"]) fun _ _ _ _ _ _ us hl => match us, hl with | [_, _], _ => rfl
  have B15 := F15.binds (ps := ["fuel", "aim"]) fun _ _ _ _ _ _ us hl => match us, hl with | [_, _], _ => rfl
  have B16 := F16.binds (ps := ["fuel", "aim", "slips"]) fun _ _ _ _ _ _ us hl => match us, hl with | [_, _, _], _ => rfl
  have B17 := F17.binds (ps := ["fuel", "slips"]) fun _ _ _ _ _ _ us hl => match us, hl with | [_, _], _ => rfl
  have B18 := F18.binds (ps := ["fuel"]) fun _ _ _ _ _ _ us hl => match us, hl with | [_], _ => rfl
  have B19 := F19.binds (ps := ["self"]) fun _ _ _ _ _ _ us hl => match us, hl with | [_], _ => rfl
  have B20 := F20.binds (ps := ["self"]) fun _ _ _ _ _ _ us hl => match us, hl with | [_], _ => rfl
  have B21 := F21.binds (ps := ["self", "other"]) fun _ _ _ _ _ _ us hl => match us, hl with | [_, _], _ => rfl
  have B22 := F22.binds (ps := ["self", "other"]) fun _ _ _ _ _ _ us hl => match us, hl with | [_, _], _ => rfl
  have B23 := F23.binds (ps := ["self"]) fun _ _ _ _ _ _ us hl => match us, hl with | [_], _ => rfl
  have B24 := F24.binds (ps := ["self", "other"]) fun _ _ _ _ _ _ us hl => match us, hl with | [_, _], _ => rfl
  have B25 := F25.binds (ps := ["self"]) fun _ _ _ _ _ _ us hl => match us, hl with | [_], _ => rfl
  have B26 := F26.binds (ps := ["self", "other"]) fun _ _ _ _ _ _ us hl => match us, hl with | [_, _], _ => rfl
  have B27 := F27.binds (ps := ["draw"]) fun _ _ _ _ _ _ us hl => match us, hl with | [_], _ => rfl
  have B28 := F28.binds (ps := ["raw"]) fun _ _ _ _ _ _ us hl => match us, hl with | [_], _ => rfl
  have B29 := F29.binds (ps := ["script"]) fun _ _ _ _ _ _ us hl => match us, hl with | [_], _ => rfl
  let T : Txt K mg := ⟨_, _, F0, PySem.W.mg_of X G a0, B0,
    _, _, F1, PySem.W.mg_of X G a1, B1,
    _, _, F2, B2,
    _, _, F3, B3,
    _, _, F4, PySem.W.mg_of X G a4, B4,
    _, _, F5, PySem.W.mg_of X G a5, B5,
    _, _, F6, B6,
    _, _, F7, PySem.W.mg_of X G a7, B7,
    _, _, F8, B8,
    _, _, F9, B9,
    _, _, F10, PySem.W.mg_of X G a10, B10,
    _, _, F11, B11,
    _, _, F12, PySem.W.mg_of X G a12, B12,
    _, _, F13, PySem.W.mg_of X G a13, B13,
    _, _, F14, PySem.W.mg_of X G a14, B14,
    _, _, F15, PySem.W.mg_of X G a15, B15,
    _, _, F16, PySem.W.mg_of X G a16, B16,
    _, _, F17, PySem.W.mg_of X G a17, B17,
    _, _, F18, PySem.W.mg_of X G a18, B18,
    _, _, F19, B19,
    _, _, F20, B20,
    _, _, F21, B21,
    _, _, F22, B22,
    _, _, F23, B23,
    _, _, F24, B24,
    _, _, F25, B25,
    _, _, F26, B26,
    _, _, F27, PySem.W.mg_of X G a27, B27,
    _, _, F28, PySem.W.mg_of X G a28, B28,
    _, _, F29, PySem.W.mg_of X G a29, B29,
    PySem.W.mg_none_of X G z_bool,
    PySem.W.mg_none_of X G z_isinstance,
    PySem.W.mg_none_of X G z_int,
    PySem.W.mg_none_of X G z_len,
    PySem.W.mg_none_of X G z_tuple,
    PySem.W.mg_none_of X G z_enumerate,
    PySem.W.mg_none_of X G z_sorted,
    PySem.W.mg_none_of X G z_all,
    PySem.W.mg_none_of X G z_set,
    PySem.W.mg_none_of X G z_zip,
    PySem.W.mg_none_of X G z_any,
    PySem.W.mg_none_of X G z_range,
    DL.zz8 (by intro C hC; simp only [List.mem_cons, List.not_mem_nil, or_false] at hC; rcases hC with rfl | rfl | rfl | rfl | rfl; exact ⟨⟨pg_Ground, hd_Ground, po_Ground, sa_Ground⟩, ow_Ground, gs_, tk_, ob_Ground⟩; exact ⟨⟨pg_Camera, hd_Camera, po_Camera, sa_Camera⟩, ow_Camera, gs_, tk_, ob_Camera⟩; exact ⟨⟨pg_Sky, hd_Sky, po_Sky, sa_Sky⟩, ow_Sky, gs_, tk_, ob_Sky⟩; exact ⟨⟨pg_Deed, hd_Deed, po_Deed, sa_Deed⟩, ow_Deed, gs_, tk_, ob_Deed⟩; exact ⟨⟨pg_Craft, hd_Craft, po_Craft, sa_Craft⟩, ow_Craft, gs_, tk_, ob_Craft⟩),
    (let ⟨t, e⟩ := q_MOST_SIZE; ⟨t, PySem.W.mg_of X G e⟩),
    (let ⟨t, e⟩ := q_MOST_PLACE; ⟨t, PySem.W.mg_of X G e⟩),
    (let ⟨t, e⟩ := q_MOST_COUNT; ⟨t, PySem.W.mg_of X G e⟩),
    n_Ground_craters,
    ⟨pg_Ground, hd_Ground, po_Ground, sa_Ground⟩,
    (let ⟨t, e⟩ := q_MOST_SIDE; ⟨t, PySem.W.mg_of X G e⟩),
    n_Camera_width,
    ⟨pg_Camera, hd_Camera, po_Camera, sa_Camera⟩,
    n_Camera_height,
    n_Camera_error,
    n_Camera_false,
    n_Camera_lost,
    (let ⟨t, e⟩ := q_MOST; ⟨t, PySem.W.mg_of X G e⟩),
    ⟨_, _, _, _, _, PySem.W.mg_of X G gt_KINDS, gl_KINDS, dec_gs_KINDS, dec_gz_KINDS⟩,
    n_Deed_kind,
    ⟨pg_Deed, hd_Deed, po_Deed, sa_Deed⟩,
    n_Deed_fuel,
    n_Deed_aim,
    n_Deed_slips,
    PySem.W.mg_of X G e_Deed,
    ⟨mks_Deed, a6, i6, kp_Deed⟩,
    (let ⟨t, e⟩ := q_MOST_STANDINGS; ⟨t, PySem.W.mg_of X G e⟩),
    n_Sky_ground,
    ⟨pg_Sky, hd_Sky, po_Sky, sa_Sky⟩,
    n_Sky_camera,
    n_Sky_turns,
    n_Sky_area,
    PySem.W.mg_of X G e_Ground,
    ⟨a9, i9, k9⟩,
    PySem.W.mg_of X G e_Sky,
    (let ⟨t, e⟩ := q_MOST_ROOM; ⟨t, PySem.W.mg_of X G e⟩),
    n_Craft_skies,
    ⟨pg_Craft, hd_Craft, po_Craft, sa_Craft⟩,
    n_Craft_foot,
    n_Craft_room,
    n_Craft_deeds,
    ⟨a20, i20, k20⟩,
    PySem.W.mg_of X G e_Camera,
    ⟨a23, i23, k23⟩,
    ⟨a22, i22, k22⟩,
    ⟨a24, i24, k24⟩,
    ⟨a25, i25, k25⟩,
    PySem.W.mg_of X G e_Craft,
    ⟨mks_Ground, a2, i2, kp_Ground⟩,
    ⟨mks_Camera, a3, i3, kp_Camera⟩,
    ⟨mks_Sky, a8, i8, kp_Sky⟩,
    ⟨a21, i21, k21⟩,
    ⟨ob_Camera, nb_Camera⟩,
    ⟨ob_Ground, nb_Ground⟩,
    ⟨a19, i19, k19⟩,
    ⟨mks_Craft, a11, i11, kp_Craft⟩,
    ⟨ob_Deed, nb_Deed⟩,
    ⟨a26, i26, k26⟩,
    ⟨ob_Craft, nb_Craft⟩⟩
  refine ⟨PySem.W.fnOf "law" "law" (defArgs zkj) (defBody zkj) (defScope zkj) .none kV29 dc29 pm29 an29 cd29 ct29, fun s v => .of_eq rfl, fun base _ _ => ?_⟩
  exact z4u T
omit [CA]
theorem z38 {w : World} {K : PySem.W.Frag} {h : Heap} {mg : Str → Option Value} {fa : Addr} (X : K.In h) (G : h.Ns mainGlobals mg) (hfa : mg "law" = some (.ref fa)) (c : HB.zo0 fsB fnB K) :
    ∃ fd : FuncData, (∀ (s : Shared) (v : Value), BindsTo s fd ⟨[v], []⟩ [("script", v)]) ∧ ∀ base : Heap, K.In base → base.Ns mainGlobals mg → FnD PySem.Challenge.rw_moonfall_k25_whole_as_told.prog w K mg base 12 fa fd ["script"] DL.zzg := by
  obtain ⟨_, _, _, _, _, _, _, _, l0⟩ := c.f dB0 0
  obtain ⟨_, _, _, _, _, _, _, _, l1⟩ := c.f dB1 1
  obtain ⟨_, _, _, _, _, _, _, _, l2⟩ := c.f dB2 2
  obtain ⟨_, _, _, _, _, _, _, _, l3⟩ := c.f dB3 3
  obtain ⟨_, _, _, _, _, _, _, _, l4⟩ := c.f dB4 4
  obtain ⟨_, _, _, _, _, _, _, _, l5⟩ := c.f dB5 5
  obtain ⟨_, _, _, _, _, _, _, _, l6⟩ := c.f dB6 6
  obtain ⟨_, _, _, _, _, _, _, _, l7⟩ := c.f dB7 7
  obtain ⟨_, _, _, _, _, _, _, _, l8⟩ := c.f dB8 8
  obtain ⟨_, _, _, _, _, _, _, _, l9⟩ := c.f dB9 9
  obtain ⟨_, _, _, _, _, _, _, _, l10⟩ := c.f dB10 10
  obtain ⟨_, _, _, _, _, _, _, _, l11⟩ := c.f dB11 11
  obtain ⟨_, _, _, _, _, _, _, _, l12⟩ := c.f dB12 12
  obtain ⟨_, _, _, _, _, _, _, _, l13⟩ := c.f dB13 13
  obtain ⟨_, _, _, _, _, _, _, _, l14⟩ := c.f dB14 14
  obtain ⟨_, _, _, _, _, _, _, _, l15⟩ := c.f dB15 15
  obtain ⟨_, _, _, _, _, _, _, _, l16⟩ := c.f dB16 16
  obtain ⟨_, _, _, _, _, _, _, _, l17⟩ := c.f dB17 17
  obtain ⟨_, _, _, _, _, _, _, _, l18⟩ := c.f dB18 18
  obtain ⟨_, _, _, _, _, _, _, _, l19⟩ := c.f dB19 19
  obtain ⟨_, _, _, _, _, _, _, _, l20⟩ := c.f dB20 20
  obtain ⟨_, _, _, _, _, _, _, _, l21⟩ := c.f dB21 21
  obtain ⟨_, _, _, _, _, _, _, _, l22⟩ := c.f dB22 22
  obtain ⟨_, _, _, _, _, _, _, _, l23⟩ := c.f dB23 23
  obtain ⟨_, _, _, _, _, _, _, _, l24⟩ := c.f dB24 24
  obtain ⟨_, _, _, _, _, _, _, _, l25⟩ := c.f dB25 25
  obtain ⟨_, _, _, _, _, _, _, _, l26⟩ := c.f dB26 26
  obtain ⟨_, _, _, _, _, _, _, _, l27⟩ := c.f dB27 27
  obtain ⟨_, _, _, _, _, _, _, _, l28⟩ := c.f dB28 28
  obtain ⟨_, _, _, _, _, _, _, _, l29⟩ := c.f dB29 29
  obtain ⟨_, _, _, _, gl_KINDS, gs_KINDS, gz_KINDS⟩ := HB.z2k (c.fact 0 (f := fun K => HB.seqB K "KINDS" (zey ["step", "turn", "look", "land", "away"])) (by kernel_rfl))
  exact z4j (l := PySem.Challenge.rw_moonfall_k25_whole_as_told) (f0 := (He.fAd K ("is_whole", none))) (f1 := (He.fAd K ("is_point", none))) (f2 := (He.fAd K ("Ground", some "__init__"))) (f3 := (He.fAd K ("Camera", some "__init__"))) (f4 := (He.fAd K ("is_shift", none))) (f5 := (He.fAd K ("wrong_aim", none))) (f6 := (He.fAd K ("Deed", some "__init__"))) (f7 := (He.fAd K ("turn", none))) (f8 := (He.fAd K ("Sky", some "__init__"))) (f9 := (He.fAd K ("Ground", some "__eq__"))) (f10 := (He.fAd K ("have_one_ground", none))) (f11 := (He.fAd K ("Craft", some "__init__"))) (f12 := (He.fAd K ("_law_number", none))) (f13 := (He.fAd K ("_law_take", none))) (f14 := (He.fAd K ("_law_pick", none))) (f15 := (He.fAd K ("look", none))) (f16 := (He.fAd K ("step", none))) (f17 := (He.fAd K ("land", none))) (f18 := (He.fAd K ("away", none))) (f19 := (He.fAd K ("Sky", some "standings"))) (f20 := (He.fAd K ("Camera", some "told"))) (f21 := (He.fAd K ("Camera", some "__eq__"))) (f22 := (He.fAd K ("Sky", some "__eq__"))) (f23 := (He.fAd K ("Deed", some "told"))) (f24 := (He.fAd K ("Deed", some "__eq__"))) (f25 := (He.fAd K ("Craft", some "told"))) (f26 := (He.fAd K ("Craft", some "__eq__"))) (f27 := (He.fAd K ("_law_raw", none))) (f28 := (He.fAd K ("_law_made", none))) (f29 := (He.fAd K ("law", none))) (c_Ground := (He.ga K "Ground")) (c_Camera := (He.ga K "Camera")) (c_Sky := (He.ga K "Sky")) (c_Deed := (He.ga K "Deed")) (c_Craft := (He.ga K "Craft")) (ga_KINDS := He.ga K "KINDS") X G hfa (c.d 2)
    (c.d 3)
    (c.d 4)
    (c.d 5)
    (c.d 6)
    (c.d 7)
    l0
    (c.q 8)
    (c.q 9)
    (c.d 10)
    l1
    (c.q 11)
    (c.q 12)
    (c.d 13)
    (c.q 14)
    l2
    (c.q 15)
    (c.q 16)
    (c.d 17)
    (c.q 18)
    l3
    (c.q 19)
    (c.q 20)
    (c.d 21)
    l4
    (c.q 22)
    (c.q 23)
    (c.d 24)
    l5
    (c.q 25)
    (c.q 26)
    (c.d 27)
    (c.q 28)
    l6
    (c.q 29)
    (c.q 30)
    (c.d 31)
    l7
    (c.q 32)
    (c.q 33)
    (c.d 34)
    (c.q 35)
    l8
    (c.q 36)
    (c.q 37)
    (c.d 38)
    (c.q 39)
    l9
    (c.q 40)
    (c.q 41)
    (c.d 42)
    l10
    (c.q 43)
    (c.q 44)
    (c.d 45)
    (c.q 46)
    l11
    (c.q 47)
    (c.q 48)
    (c.d 49)
    l12
    (c.q 50)
    (c.q 51)
    (c.d 52)
    l13
    (c.q 53)
    (c.q 54)
    (c.d 55)
    l14
    (c.q 56)
    (c.q 57)
    (c.d 58)
    l15
    (c.q 59)
    (c.q 60)
    (c.d 61)
    l16
    (c.q 62)
    (c.q 63)
    (c.d 64)
    l17
    (c.q 65)
    (c.q 66)
    (c.d 67)
    l18
    (c.q 68)
    (c.q 69)
    (c.d 70)
    (c.q 71)
    l19
    (c.q 72)
    (c.q 73)
    (c.d 74)
    (c.q 75)
    l20
    (c.q 76)
    (c.q 77)
    (c.d 78)
    (c.q 79)
    l21
    (c.q 80)
    (c.q 81)
    (c.d 82)
    (c.q 83)
    l22
    (c.q 84)
    (c.q 85)
    (c.d 86)
    (c.q 87)
    l23
    (c.q 88)
    (c.q 89)
    (c.d 90)
    (c.q 91)
    l24
    (c.q 92)
    (c.q 93)
    (c.d 94)
    (c.q 95)
    l25
    (c.q 96)
    (c.q 97)
    (c.d 98)
    (c.q 99)
    l26
    (c.q 100)
    (c.q 101)
    (c.d 102)
    l27
    (c.q 103)
    (c.q 104)
    (c.d 105)
    l28
    (c.q 106)
    (c.q 107)
    (c.d 108)
    l29
    (c.q 109)
    (c.q 110)
    (c.q 111)
    (c.q 112)
    (c.q 113)
    (c.d 114)
    (c.d 115)
    (c.d 116)
    (c.q 117)
    (c.q 118)
    (c.q 119)
    (c.q 120)
    (c.q 121)
    (c.d 122)
    (c.d 123)
    (c.d 124)
    (c.q 125)
    (c.q 126)
    (c.q 127)
    (c.q 128)
    (c.q 129)
    (c.d 130)
    (c.d 131)
    (c.d 132)
    (c.q 133)
    (c.q 134)
    (c.q 135)
    (c.q 136)
    (c.q 137)
    (c.d 138)
    (c.d 139)
    (c.d 140)
    (c.q 141)
    (c.q 142)
    (c.q 143)
    (c.q 144)
    (c.q 145)
    (c.d 146)
    (c.d 147)
    (c.d 148)
    (c.q 149)
    (c.q 150)
    (c.d 151)
    (c.d 152)
    (c.d 153)
    (c.d 154)
    (c.d 155)
    (c.d 156)
    (c.d 157)
    (c.d 158)
    (c.d 159)
    (c.d 160)
    (c.d 161)
    (c.d 162)
    (c.d 163)
    (c.d 164)
    (c.d 165)
    (c.d 166)
    (c.d 167)
    (c.d 168)
    (c.d 169)
    (c.d 170)
    (c.d 171)
    (c.d 172)
    (c.d 173)
    (c.d 174)
    (HB.zyj (c.fact 1 (f := fun K => HB.decB (PySem.W.nsIn K mainGlobals "KINDS") (some (some (.ref (He.ga K "KINDS"))))) (by kernel_rfl)))
    gl_KINDS
    gs_KINDS
    gz_KINDS
    (c.d 175)
    (c.d 176)
    (c.d 177)
    (c.d 178)
    (c.d 179)
    (c.d 180)
    (c.d 181)
    (c.d 182)
    (c.d 183)
    (c.d 184)
    (c.d 185)
    (c.d 186)
    (HB.zls (c.fact 187 (f := fun K => HB.intB K "MOST_SIZE" 99) (by kernel_rfl)))
    (HB.zls (c.fact 188 (f := fun K => HB.intB K "MOST_PLACE" 1000000) (by kernel_rfl)))
    (HB.zls (c.fact 189 (f := fun K => HB.intB K "MOST_COUNT" 100) (by kernel_rfl)))
    (HB.zls (c.fact 190 (f := fun K => HB.intB K "MOST_SIDE" 1000) (by kernel_rfl)))
    (HB.zls (c.fact 191 (f := fun K => HB.intB K "MOST" 1000) (by kernel_rfl)))
    (HB.zls (c.fact 192 (f := fun K => HB.intB K "MOST_STANDINGS" 40000) (by kernel_rfl)))
    (HB.zls (c.fact 193 (f := fun K => HB.intB K "MOST_ROOM" 1000) (by kernel_rfl)))
end M
open PySem PySem.W PySem.Calls PyProof.Rows in
set_option maxRecDepth 100000 in
set_option maxHeartbeats 0 in
theorem PySem.Challenge.cw_moonfall_k25_whole_as_told_holds : PySem.Challenge.rw_moonfall_k25_whole_as_told.Holds := by
  w_on; o_law
  refine HandSHeadRun.head_any (r := OpenLaw.row PySem.Challenge.rw_moonfall_k25_whole_as_told) (q := view (OpenLaw.row PySem.Challenge.rw_moonfall_k25_whole_as_told).prog [51]) (H := M.hkB) (ob := M.obB) (M := 20000) (loose := M.zq5) (d := HandSHeadRun.topDef (OpenLaw.row PySem.Challenge.rw_moonfall_k25_whole_as_told).prog 51) (kwd := []) M.zza
    (by kernel_rfl) (fun s => by kernel_rfl) M.runB (by kernel_rfl) (by kernel_rfl) (by kernel_rfl) (by rfl) (by first | assumption | decide +kernel) (by decide +kernel) ⟨rfl, rfl, rfl, rfl, rfl, by decide +kernel⟩ ?hw ?hc
  case hw => w_witness2
  case hc =>
    refine HB.z2i (l := PySem.Challenge.rw_moonfall_k25_whole_as_told) (k := 12) (x := "script") rfl (by kernel_rfl) ⟨rfl, by decide, by decide⟩ ?F
    intro w mg fa h Y G hmg0
    obtain ⟨K, KX, c⟩ := Y
    have hmg : mg ("law" : PySem.Str) = some (.ref fa) := by
      have e : (HandSHeadRun.topDef (OpenLaw.row PySem.Challenge.rw_moonfall_k25_whole_as_told).prog 51).name = ("law" : PySem.Str) := by kernel_rfl
      rw [← e]
      exact hmg0
    obtain ⟨fd, hb, hF⟩ := M.z38 (w := w) KX G hmg c
    exact ⟨K, fd, KX, hb, hF⟩
