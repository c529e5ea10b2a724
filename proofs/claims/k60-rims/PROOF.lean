import PyProof.Rows.All
import Wide.All
import OpenK.AllK
import Wide.FinOn
import HandS.ForMost
import KE.KDictKeyed
import HandS.TupAny
import HandS.Style
import KE.SortData
import KE.DataCmp
import KE.DatumOrd
import PyProof.P3In
import HandS.TupLen
import HandS.Iter
import KE.KDictWalk
import HandS.DictComp
import KE.KDictPairs
import HandS.More
import KE.KDictCopyH
import KE.KDictSum
import PySem.Challenge.RW_moonfall_k60_whole_rims
set_option Elab.async false
set_option linter.all false
set_option maxRecDepth 100000
set_option maxHeartbeats 4000000
/-! DL: a layer of plain data over HandS: values as trees, tracked objects by address. -/
namespace DL
open PySem PySem.Spec PyProof.Rows L2

/-! ### data -/
inductive Kd where
  | tup | lst | scr | ins (C : Addr) (fs : List Str) | dK (ks : List Key) | dN (ks : List NestedKey)
/-- a value as a tree; ref: an object that is tracked by its address (or one of the text) -/
inductive D where
  | non | bl (b : Bool) | int (i : Int) | str (x : Str) | ty (n : String) | ref (a : Addr)
  | nd (k : Kd) (ds : List D)
abbrev D.tup (ds : List D) : D := .nd .tup ds
abbrev D.lst (ds : List D) : D := .nd .lst ds
/-- what may change: it is held by its address -/
inductive DO where
  | lst (ds : List D) | dK (kvs : List (Key × D)) | dN (kvs : List (NestedKey × D)) | ins (C : Addr) (fs : List (Str × D))
abbrev DHp := Addr → Option DO
def up (G : DHp) (a : Addr) (o : DO) : DHp := fun b => if b = a then some o else G b
def dl (G : DHp) (a : Addr) : DHp := fun b => if b = a then none else G b
theorem up_same {G : DHp} {a : Addr} {o : DO} : up G a o a = some o := by unfold up; rw [if_pos rfl]
theorem up_ne {G : DHp} {a b : Addr} {o : DO} (h : b ≠ a) : up G a o b = G b := by unfold up; rw [if_neg h]
theorem dl_same {G : DHp} {a : Addr} : dl G a a = none := by unfold dl; rw [if_pos rfl]
theorem dl_ne {G : DHp} {a b : Addr} (h : b ≠ a) : dl G a b = G b := by unfold dl; rw [if_neg h]
theorem up_up {G : DHp} {a : Addr} {o u : DO} : up (up G a o) a u = up G a u := by funext b; unfold up; split <;> rfl
theorem dl_up {G : DHp} {a : Addr} {o : DO} (h : G a = none) : dl (up G a o) a = G := by
  funext b
  unfold dl up
  by_cases e : b = a
  · subst e; rw [if_pos rfl, h]
  · rw [if_neg e, if_neg e]
theorem up_comm {G : DHp} {a b : Addr} {o u : DO} (h : a ≠ b) : up (up G a o) b u = up (up G b u) a o := by
  funext c; simp only [up]
  by_cases e : c = a
  · subst e; simp [h]
  · simp [e]
theorem dl_up_ne {G : DHp} {a b : Addr} {o : DO} (h : a ≠ b) : dl (up G a o) b = up (dl G b) a o := by
  funext c; simp only [up, dl]
  by_cases e : c = a
  · subst e; simp [h]
  · simp [e]
theorem dl_none {G : DHp} {a : Addr} (h : G a = none) : dl G a = G := by
  funext c; unfold dl
  by_cases e : c = a
  · subst e; rw [if_pos rfl, h]
  · rw [if_neg e]
theorem ne_of_get {G : DHp} {a b : Addr} {o : DO} (h : G a = some o) (h' : G b = none) : a ≠ b := by
  intro e; subst e; rw [h] at h'; cases h'

/-- what is fixed: the written part, the world -/
structure Ml where
  K : PySem.W.Frag
  w : World
abbrev _root_.L2.Cx.ml (X : Cx) : Ml := ⟨X.K, X.w⟩
/-! a key as a tree -/
mutual
def nkD : NestedKey → D
  | .none => .non
  | .num i => .int i
  | .text x => .str x
  | .tup ks => .nd .tup (nkDs ks)
def nkDs : List NestedKey → List D
  | [] => []
  | k :: ks => nkD k :: nkDs ks
end
/-! a tree as a key -/
mutual
def D.key : D → Option NestedKey
  | .non => some .none
  | .int i => some (.num i)
  | .str x => some (.text x)
  | .nd .tup ds => (D.keys ds).map .tup
  | _ => none
def D.keys : List D → Option (List NestedKey)
  | [] => some []
  | d :: ds => match D.key d, D.keys ds with
    | some k, some ks => some (k :: ks)
    | _, _ => none
end
/-- an entry of a dict with nested keys -/
def entN (w : World) (x : NestedKey × Addr × Value) : DictEntry := ⟨x.1.hash w, .ref x.2.1, x.2.2⟩
/-- the object at a is a dict with just these entries -/
def rawO (a : Addr) (es : Array DictEntry) (ep : Nat) : HO := .ext fun h => h.DictRaw a es ep
section
variable (K : Ml) (H : Hp) (G : DHp)
mutual
def KeyAt : NestedKey → V → Prop
  | .none, v => v = .non
  | .num i, v => v = .int i
  | .text x, v => v = .str x
  | .tup ks, v => ∃ a vs, v = .ref a ∧ SqT K.K H a vs ∧ KeysAt ks vs
def KeysAt : List NestedKey → List V → Prop
  | [], vs => vs = []
  | k :: ks, vs => ∃ v r, vs = v :: r ∧ KeyAt k v ∧ KeysAt ks r
end
/-- a dict with nested keys ks and values vs at a -/
def DnAt (a : Addr) (ks : List NestedKey) (vs : List V) : Prop :=
  ∃ (xs : List (NestedKey × Addr × Value)) (es : Array DictEntry) (ep : Nat), H a = some (rawO a es ep) ∧ (a == sysModules) = false ∧ es.toList = xs.map (entN K.w) ∧ xs.map (·.1) = ks ∧ ks.Nodup ∧ ks.length ≤ sizeLine ∧
    (∀ x ∈ xs, KeyAt K H x.1 (.ref x.2.1) ∧ x.1.depth ≤ 8) ∧ Vals vs (xs.map (·.2.2))
/-- at a stands an object of the kind with the items vs -/
def Held : Kd → Addr → List V → Prop
  | .tup, a, vs => SqT K.K H a vs
  | .lst, a, vs => G a = none ∧ H a = some (.lst vs)
  | .scr, a, vs => (∃ o, H a = some (.frz o (.lst vs))) ∨
      ∃ (o : Obj) (its : Array Value) (n : Nat), K.K.lookup a = some o ∧ o.cls = .type "list" ∧ o.dict = none ∧ o.data = .seq its n ∧ its.size ≤ sizeLine ∧ Vals vs its.toList
  | .ins C fs, a, vs => G a = none ∧ fs.length = vs.length ∧ ∃ dx, H a = some (.ins C dx (fs.zip vs))
  | .dK ks, a, vs => ks.length = vs.length ∧ ∃ o, H a = some (.frz o (.dK (ks.zip vs)))
  | .dN ks, a, vs => G a = none ∧ DnAt K H a ks vs
mutual
def VR : D → V → Prop
  | .non, v => v = .non
  | .bl b, v => v = .bl b
  | .int i, v => v = .int i
  | .str x, v => v = .str x
  | .ty n, v => v = .ty n
  | .ref a, v => v = .ref a
  | .nd k ds, v => ∃ a vs, v = .ref a ∧ Held K H G k a vs ∧ VRs ds vs
def VRs : List D → List V → Prop
  | [], vs => vs = []
  | d :: ds, vs => ∃ v r, vs = v :: r ∧ VR d v ∧ VRs ds r
end
/-- a tracked object -/
def OR (a : Addr) : DO → Prop
  | .lst ds => ∃ vs, H a = some (.lst vs) ∧ VRs K H G ds vs
  | .dK kvs => ∃ ws, H a = some (.dK ws) ∧ ws.map (·.1) = kvs.map (·.1) ∧ VRs K H G (kvs.map (·.2)) (ws.map (·.2))
  | .dN kvs => ∃ ws, DnAt K H a (kvs.map (·.1)) ws ∧ VRs K H G (kvs.map (·.2)) ws
  | .ins C fs => ∃ dx ws, H a = some (.ins C dx ws) ∧ ws.map (·.1) = fs.map (·.1) ∧ VRs K H G (fs.map (·.2)) (ws.map (·.2))
def HR : Prop := ∀ a o, G a = some o → OR K H G a o
end

structure Ext (H : Hp) (G : DHp) (H' : Hp) (G' : DHp) : Prop where
  ex : ∀ a u, H a = some u → G a = none → H' a = some u ∧ G' a = none
theorem Ext.refl (H : Hp) (G : DHp) : Ext H G H G := ⟨fun _ _ h n => ⟨h, n⟩⟩
theorem Ext.trans {H G H1 G1 H2 G2} (a : Ext H G H1 G1) (b : Ext H1 G1 H2 G2) : Ext H G H2 G2 :=
  ⟨fun c u h n => let ⟨h1, n1⟩ := a.ex c u h n; b.ex c u h1 n1⟩

section
variable {K : Ml} {H H' : Hp} {G G' : DHp}
theorem OR.not_tup {a : Addr} {o : DO} (h : OR K H G a o) {vs : List V} : ¬ Rd H a (.tup vs) := by
  intro r
  cases o with
  | lst ds =>
    obtain ⟨_, e, _⟩ := h
    rcases r with r | ⟨_, r⟩ <;> rw [e] at r <;> cases r
  | dK ds =>
    obtain ⟨_, e, _⟩ := h
    rcases r with r | ⟨_, r⟩ <;> rw [e] at r <;> cases r
  | dN ds =>
    obtain ⟨_, ⟨_, _, _, e, _⟩, _⟩ := h
    rcases r with r | ⟨_, r⟩ <;> rw [e] at r <;> cases r
  | ins C fs =>
    obtain ⟨_, _, e, _⟩ := h
    rcases r with r | ⟨_, r⟩ <;> rw [e] at r <;> cases r
theorem OR.not_frz {a : Addr} {o : DO} (h : OR K H G a o) {ob : Obj} {u : HO} : H a ≠ .some (.frz ob u) := by
  intro r
  cases o with
  | lst ds =>
    obtain ⟨_, e, _⟩ := h
    rw [e] at r; cases r
  | dK ds =>
    obtain ⟨_, e, _⟩ := h
    rw [e] at r; cases r
  | dN ds =>
    obtain ⟨_, ⟨_, _, _, e, _⟩, _⟩ := h
    rw [e] at r; cases r
  | ins C fs =>
    obtain ⟨_, _, e, _⟩ := h
    rw [e] at r; cases r
theorem OR.some {a : Addr} {o : DO} (h : OR K H G a o) : ∃ u, H a = .some u := by
  cases o with
  | lst ds => obtain ⟨_, e, _⟩ := h; exact ⟨_, e⟩
  | dK ds => obtain ⟨_, e, _⟩ := h; exact ⟨_, e⟩
  | dN ds => obtain ⟨_, ⟨_, _, _, e, _⟩, _⟩ := h; exact ⟨_, e⟩
  | ins C fs => obtain ⟨_, _, e, _⟩ := h; exact ⟨_, e⟩
theorem HR.tup (h : HR K H G) {a : Addr} {vs : List V} (r : Rd H a (.tup vs)) : G a = none := by
  cases e : G a with
  | none => rfl
  | some o => exact absurd r (OR.not_tup (h a o e))
theorem HR.frz (h : HR K H G) {a : Addr} {ob : Obj} {u : HO} (r : H a = some (.frz ob u)) : G a = none := by
  cases e : G a with
  | none => rfl
  | some o => exact absurd r (OR.not_frz (h a o e))
theorem HR.free (h : HR K H G) {a : Addr} (r : H a = none) : G a = none := by
  cases e : G a with
  | none => rfl
  | some o => obtain ⟨u, q⟩ := OR.some (h a o e); rw [q] at r; cases r
mutual
theorem KeyAt.ext (hr : HR K H G) (x : Ext H G H' G') : ∀ {k : NestedKey} {v : V}, KeyAt K H k v → KeyAt K H' k v
  | .none, _, h => by rw [KeyAt] at h ⊢; exact h
  | .num _, _, h => by rw [KeyAt] at h ⊢; exact h
  | .text _, _, h => by rw [KeyAt] at h ⊢; exact h
  | .tup ks, _, h => by
    rw [KeyAt] at h ⊢
    obtain ⟨a, vs, e, q, r⟩ := h
    refine ⟨a, vs, e, ?_, KeysAt.ext hr x r⟩
    rcases q with (h | ⟨o, h⟩) | h
    · exact .inl (.inl (x.ex _ _ h (hr.tup (.inl h))).1)
    · exact .inl (.inr ⟨o, (x.ex _ _ h (hr.frz h)).1⟩)
    · exact .inr h
theorem KeysAt.ext (hr : HR K H G) (x : Ext H G H' G') : ∀ {k : List NestedKey} {v : List V}, KeysAt K H k v → KeysAt K H' k v
  | [], _, h => by rw [KeysAt] at h ⊢; exact h
  | k :: ks, _, h => by
    rw [KeysAt] at h ⊢
    obtain ⟨v, r, e, q, t⟩ := h
    exact ⟨v, r, e, KeyAt.ext hr x q, KeysAt.ext hr x t⟩
end
theorem DnAt.ext (hr : HR K H G) (x : Ext H G H' G') {a : Addr} {ks : List NestedKey} {vs : List V} (h : DnAt K H a ks vs) (e : H' a = H a) : DnAt K H' a ks vs := by
  obtain ⟨xs, es, ep, h1, h2, h3, h4, h5, h6, h7, h8⟩ := h
  exact ⟨xs, es, ep, e.trans h1, h2, h3, h4, h5, h6, fun y hy => ⟨(h7 y hy).1.ext hr x, (h7 y hy).2⟩, h8⟩
theorem Held.ext (hr : HR K H G) (x : Ext H G H' G') {k : Kd} {a : Addr} {vs : List V} (h : Held K H G k a vs) : Held K H' G' k a vs := by
  cases k with
  | tup =>
    rcases h with (h | ⟨o, h⟩) | h
    · exact .inl (.inl (x.ex _ _ h (hr.tup (.inl h))).1)
    · exact .inl (.inr ⟨o, (x.ex _ _ h (hr.frz h)).1⟩)
    · exact .inr h
  | lst =>
    obtain ⟨n, r⟩ := h
    obtain ⟨r', n'⟩ := x.ex _ _ r n
    exact ⟨n', r'⟩
  | scr =>
    rcases h with ⟨o, h⟩ | h
    · exact .inl ⟨o, (x.ex _ _ h (hr.frz h)).1⟩
    · exact .inr h
  | ins C fs =>
    obtain ⟨n, l, dx, r⟩ := h
    obtain ⟨r', n'⟩ := x.ex _ _ r n
    exact ⟨n', l, dx, r'⟩
  | dK ks =>
    obtain ⟨l, o, r⟩ := h
    exact ⟨l, o, (x.ex _ _ r (hr.frz r)).1⟩
  | dN ks =>
    obtain ⟨n, r⟩ := h
    obtain ⟨xs, es, ep, h1, _⟩ := id r
    obtain ⟨e, n'⟩ := x.ex _ _ h1 n
    exact ⟨n', r.ext hr x (e.trans h1.symm)⟩
mutual
theorem VR.ext (hr : HR K H G) (x : Ext H G H' G') : ∀ {d : D} {v : V}, VR K H G d v → VR K H' G' d v
  | .non, _, h => by rw [VR] at h ⊢; exact h
  | .bl _, _, h => by rw [VR] at h ⊢; exact h
  | .int _, _, h => by rw [VR] at h ⊢; exact h
  | .str _, _, h => by rw [VR] at h ⊢; exact h
  | .ty _, _, h => by rw [VR] at h ⊢; exact h
  | .ref _, _, h => by rw [VR] at h ⊢; exact h
  | .nd k ds, _, h => by
    rw [VR] at h ⊢
    obtain ⟨a, vs, e, q, r⟩ := h
    exact ⟨a, vs, e, q.ext hr x, VRs.ext hr x r⟩
theorem VRs.ext (hr : HR K H G) (x : Ext H G H' G') : ∀ {ds : List D} {vs : List V}, VRs K H G ds vs → VRs K H' G' ds vs
  | [], _, h => by rw [VRs] at h ⊢; exact h
  | d :: ds, _, h => by
    rw [VRs] at h ⊢
    obtain ⟨v, r, e, q, t⟩ := h
    exact ⟨v, r, e, VR.ext hr x q, VRs.ext hr x t⟩
end
theorem VRs.nil : VRs K H G [] [] := by rw [VRs]
theorem VRs.cons {d : D} {ds : List D} {v : V} {vs : List V} (h : VR K H G d v) (t : VRs K H G ds vs) : VRs K H G (d :: ds) (v :: vs) := by
  rw [VRs]; exact ⟨v, vs, rfl, h, t⟩
theorem VRs.uncons {d : D} {ds : List D} {vs : List V} (h : VRs K H G (d :: ds) vs) : ∃ v r, vs = v :: r ∧ VR K H G d v ∧ VRs K H G ds r := by
  rw [VRs] at h; exact h
theorem VRs.nil_of {vs : List V} (h : VRs K H G [] vs) : vs = [] := by rw [VRs] at h; exact h
theorem VRs.length : ∀ {ds : List D} {vs : List V}, VRs K H G ds vs → vs.length = ds.length
  | [], _, h => by rw [h.nil_of]; rfl
  | d :: ds, _, h => by
    obtain ⟨v, r, rfl, _, t⟩ := h.uncons
    rw [List.length_cons, List.length_cons, VRs.length t]
theorem VRs.append : ∀ {ds es : List D} {vs ws : List V}, VRs K H G ds vs → VRs K H G es ws → VRs K H G (ds ++ es) (vs ++ ws)
  | [], _, _, _, h, q => by rw [h.nil_of]; exact q
  | d :: ds, _, _, _, h, q => by
    obtain ⟨v, r, rfl, x, t⟩ := h.uncons
    exact .cons x (VRs.append t q)
theorem VRs.get : ∀ {ds : List D} {vs : List V} {i : Nat} {d : D}, VRs K H G ds vs → ds[i]? = some d → ∃ v, vs[i]? = some v ∧ VR K H G d v
  | [], _, _, _, _, e => by simp at e
  | d :: ds, _, 0, _, h, e => by
    obtain ⟨v, r, rfl, x, t⟩ := h.uncons
    simp at e; subst e
    exact ⟨v, rfl, x⟩
  | d :: ds, _, i + 1, _, h, e => by
    obtain ⟨v, r, rfl, x, t⟩ := h.uncons
    obtain ⟨u, e1, q⟩ := VRs.get (i := i) t (by simpa using e)
    exact ⟨u, by simpa using e1, q⟩
theorem VRs.getV {ds : List D} {vs : List V} {i : Nat} {v : V} (h : VRs K H G ds vs) (e : vs[i]? = some v) : ∃ d, ds[i]? = some d ∧ VR K H G d v := by
  have hl := h.length
  have hi : i < ds.length := by rw [← hl]; exact (List.getElem?_eq_some_iff.mp e).1
  obtain ⟨u, e1, q⟩ := h.get (i := i) (d := ds[i]) (by simp [hi])
  rw [e] at e1; cases e1
  exact ⟨_, by simp [hi], q⟩
theorem VRs.take : ∀ {ds : List D} {vs : List V} (n : Nat), VRs K H G ds vs → VRs K H G (ds.take n) (vs.take n)
  | _, _, 0, _ => by rw [List.take_zero, List.take_zero]; exact .nil
  | [], _, n + 1, h => by rw [h.nil_of]; exact .nil
  | d :: ds, _, n + 1, h => by
    obtain ⟨v, r, rfl, x, t⟩ := h.uncons
    exact .cons x (VRs.take n t)
theorem VRs.drop : ∀ {ds : List D} {vs : List V} (n : Nat), VRs K H G ds vs → VRs K H G (ds.drop n) (vs.drop n)
  | _, _, 0, h => by rw [List.drop_zero, List.drop_zero]; exact h
  | [], _, n + 1, h => by rw [h.nil_of]; exact .nil
  | d :: ds, _, n + 1, h => by
    obtain ⟨v, r, rfl, x, t⟩ := h.uncons
    exact VRs.drop n t
theorem VRs.set : ∀ {ds : List D} {vs : List V} {d : D} {v : V} (i : Nat), VRs K H G ds vs → VR K H G d v → VRs K H G (ds.set i d) (vs.set i v)
  | [], _, _, _, i, h, _ => by rw [h.nil_of]; exact .nil
  | d :: ds, _, _, _, 0, h, q => by
    obtain ⟨v, r, rfl, x, t⟩ := h.uncons
    exact .cons q t
  | d :: ds, _, _, _, i + 1, h, q => by
    obtain ⟨v, r, rfl, x, t⟩ := h.uncons
    exact .cons x (VRs.set i t q)
theorem VRs.eraseIdx : ∀ {ds : List D} {vs : List V} (i : Nat), VRs K H G ds vs → VRs K H G (ds.eraseIdx i) (vs.eraseIdx i)
  | [], _, i, h => by rw [h.nil_of]; exact .nil
  | d :: ds, _, 0, h => by
    obtain ⟨v, r, rfl, x, t⟩ := h.uncons
    exact t
  | d :: ds, _, i + 1, h => by
    obtain ⟨v, r, rfl, x, t⟩ := h.uncons
    exact .cons x (VRs.eraseIdx i t)
theorem VRs.dropLast {ds : List D} {vs : List V} (h : VRs K H G ds vs) : VRs K H G ds.dropLast vs.dropLast := by
  rw [List.dropLast_eq_take, List.dropLast_eq_take, h.length]
  exact h.take _
theorem VRs.reverse : ∀ {ds : List D} {vs : List V}, VRs K H G ds vs → VRs K H G ds.reverse vs.reverse
  | [], _, h => by rw [h.nil_of]; exact .nil
  | d :: ds, _, h => by
    obtain ⟨v, r, rfl, x, t⟩ := h.uncons
    rw [List.reverse_cons, List.reverse_cons]
    exact (VRs.reverse t).append (.cons x .nil)
/-- ints, texts, bools: what they stand for -/
theorem VRs.of_map {α : Type} (f : α → D) (g : α → V) (h : ∀ a, VR K H G (f a) (g a)) : ∀ xs : List α, VRs K H G (xs.map f) (xs.map g)
  | [] => .nil
  | x :: xs => .cons (h x) (VRs.of_map f g h xs)
theorem VRs.map_eq {α : Type} (f : α → D) (g : α → V) (h : ∀ a v, VR K H G (f a) v → v = g a) : ∀ {xs : List α} {vs : List V}, VRs K H G (xs.map f) vs → vs = xs.map g
  | [], _, q => q.nil_of
  | x :: xs, _, q => by
    obtain ⟨v, r, rfl, a, t⟩ := VRs.uncons q
    rw [List.map_cons, h x v a, VRs.map_eq f g h t]
theorem VRs.ints {ns : List Int} {vs : List V} (h : VRs K H G (ns.map D.int) vs) : vs = ns.map V.int :=
  h.map_eq _ _ fun a v q => by rw [VR] at q; exact q
theorem VRs.of_ints (ns : List Int) : VRs K H G (ns.map D.int) (ns.map V.int) := VRs.of_map _ _ (fun a => by rw [VR]) ns

/-! ### steps of the two heaps -/
/-- a new object that is not tracked -/
theorem Ext.laid {p : Addr} {o : HO} (hp : H p = none) : Ext H G (upd H p o) G :=
  ⟨fun a u h n => ⟨by rw [upd_ne (ne_of_none h hp)]; exact h, n⟩⟩
theorem OR.ext (hr : HR K H G) (x : Ext H G H' G') {a : Addr} {o : DO} (e : H' a = H a) (h : OR K H G a o) : OR K H' G' a o := by
  cases o with
  | lst ds => obtain ⟨vs, q, r⟩ := h; exact ⟨vs, e.trans q, r.ext hr x⟩
  | dK ds => obtain ⟨vs, q, z, r⟩ := h; exact ⟨vs, e.trans q, z, r.ext hr x⟩
  | dN ds => obtain ⟨vs, q, r⟩ := h; exact ⟨vs, q.ext hr x e, r.ext hr x⟩
  | ins C fs => obtain ⟨dx, vs, q, z, r⟩ := h; exact ⟨dx, vs, e.trans q, z, r.ext hr x⟩
theorem HR.laid (hr : HR K H G) {p : Addr} {o : HO} (hp : H p = none) : HR K (upd H p o) G := fun a u e => by
  have h := hr a u e
  obtain ⟨z, hz⟩ := h.some
  exact h.ext hr (.laid hp) (upd_ne (ne_of_none hz hp))
/-- a new tracked object -/
theorem Ext.new {p : Addr} {o : HO} {u : DO} (hp : H p = none) : Ext H G (upd H p o) (up G p u) :=
  ⟨fun a v h n => ⟨by rw [upd_ne (ne_of_none h hp)]; exact h, by rw [up_ne (ne_of_none h hp)]; exact n⟩⟩
theorem HR.new (hr : HR K H G) {p : Addr} {o : HO} {u : DO} (hp : H p = none) (h : OR K (upd H p o) (up G p u) p u) : HR K (upd H p o) (up G p u) := fun a w e => by
  by_cases q : a = p
  · subst q; rw [up_same] at e; cases e; exact h
  · rw [up_ne q] at e
    exact (hr a w e).ext hr (.new hp) (upd_ne q)
/-- a tracked object changes -/
theorem Ext.write {p : Addr} {o : HO} {u w : DO} (hp : G p = some w) : Ext H G (upd H p o) (up G p u) :=
  ⟨fun a v h n => by
    have e : a ≠ p := fun e => by rw [e, hp] at n; cases n
    exact ⟨by rw [upd_ne e]; exact h, by rw [up_ne e]; exact n⟩⟩
theorem HR.write (hr : HR K H G) {p : Addr} {o : HO} {u w : DO} (hp : G p = some w) (h : OR K (upd H p o) (up G p u) p u) : HR K (upd H p o) (up G p u) := fun a z e => by
  by_cases q : a = p
  · subst q; rw [up_same] at e; cases e; exact h
  · rw [up_ne q] at e
    exact (hr a z e).ext hr (.write hp) (upd_ne q)
/-- tracked no more: from now on it is read alone -/
theorem Ext.freeze {p : Addr} : Ext H G H (dl G p) :=
  ⟨fun a v h n => ⟨h, by
    by_cases e : a = p
    · rw [e, dl_same]
    · rw [dl_ne e]; exact n⟩⟩
theorem HR.freeze (hr : HR K H G) (p : Addr) : HR K H (dl G p) := fun a z e => by
  by_cases q : a = p
  · subst q; rw [dl_same] at e; cases e
  · rw [dl_ne q] at e
    exact (hr a z e).ext hr .freeze rfl
/-- .. a dict: locked -/
theorem Ext.freezeD {p : Addr} {o : HO} {w : DO} (hp : G p = some w) : Ext H G (upd H p o) (dl G p) :=
  ⟨fun a v h n => by
    have e : a ≠ p := fun e => by rw [e, hp] at n; cases n
    exact ⟨by rw [upd_ne e]; exact h, by rw [dl_ne e]; exact n⟩⟩
theorem HR.freezeD (hr : HR K H G) {p : Addr} {o : HO} {w : DO} (hp : G p = some w) : HR K (upd H p o) (dl G p) := fun a z e => by
  by_cases q : a = p
  · subst q; rw [dl_same] at e; cases e
  · rw [dl_ne q] at e
    exact (hr a z e).ext hr (.freezeD hp) (upd_ne q)
/-- the tree of an object that is tracked no more -/
def DO.tree : DO → D
  | .lst ds => .lst ds
  | .dK kvs => .nd (.dK (kvs.map (·.1))) (kvs.map (·.2))
  | .dN kvs => .nd (.dN (kvs.map (·.1))) (kvs.map (·.2))
  | .ins C fs => .nd (.ins C (fs.map (·.1))) (fs.map (·.2))
theorem zip_maps {α β : Type} : ∀ l : List (α × β), (l.map (·.1)).zip (l.map (·.2)) = l
  | [] => rfl
  | (a, b) :: l => by simp [zip_maps l]
/-- what stands at p behind the freezing: a dict is locked -/
def Fz (H H' : Hp) (p : Addr) : DO → Prop
  | .dK _ => ∃ u od, H p = some u ∧ Mut (some u) ∧ H' = upd H p (.frz od u)
  | _ => H' = H
theorem HR.tree (hr : HR K H G) {p : Addr} {o : DO} (h : G p = some o) (f : Fz H H' p o) : VR K H' (dl G p) o.tree (.ref p) ∧ Ext H G H' (dl G p) ∧ HR K H' (dl G p) := by
  have q := hr p o h
  cases o with
  | lst ds =>
    obtain rfl : H' = H := f
    obtain ⟨vs, e, r⟩ := q
    refine ⟨?_, .freeze, hr.freeze p⟩
    show VR K H' (dl G p) (.nd .lst ds) _
    rw [VR]
    exact ⟨p, vs, rfl, ⟨dl_same, e⟩, r.ext hr .freeze⟩
  | dK kvs =>
    obtain ⟨ws, e, z, r⟩ := q
    obtain ⟨u, od, hu, _, rfl⟩ := f
    rw [e] at hu; cases hu
    refine ⟨?_, .freezeD h, hr.freezeD h⟩
    show VR K _ (dl G p) (.nd (.dK _) _) _
    rw [VR]
    refine ⟨p, _, rfl, ⟨by rw [← z]; simp, od, ?_⟩, r.ext hr (.freezeD h)⟩
    rw [← z, zip_maps, upd_same]
  | dN kvs =>
    obtain rfl : H' = H := f
    obtain ⟨ws, e, r⟩ := q
    refine ⟨?_, .freeze, hr.freeze p⟩
    show VR K H' (dl G p) (.nd (.dN _) _) _
    rw [VR]
    exact ⟨p, ws, rfl, ⟨dl_same, e⟩, r.ext hr .freeze⟩
  | ins C fs =>
    obtain rfl : H' = H := f
    obtain ⟨dx, ws, e, z, r⟩ := q
    refine ⟨?_, .freeze, hr.freeze p⟩
    show VR K H' (dl G p) (.nd (.ins C _) _) _
    rw [VR]
    refine ⟨p, _, rfl, ⟨dl_same, by rw [← z]; simp, dx, ?_⟩, r.ext hr .freeze⟩
    rw [← z, zip_maps]; exact e
end

/-! ### states -/
abbrev DSt := List (Option D)
def SR (K : Ml) (H : Hp) (G : DHp) (σ : L2.St) (η : DSt) : Prop := η.length = σ.length ∧ ∀ (i : Nat) (d : D), η[i]? = some (some d) → ∃ v, σ[i]? = some (some v) ∧ VR K H G d v
section
variable {K : Ml} {H H' : Hp} {G G' : DHp} {σ : L2.St} {η η' : DSt}
theorem SR.ext (hr : HR K H G) (x : Ext H G H' G') (h : SR K H G σ η) : SR K H' G' σ η :=
  ⟨h.1, fun i d e => let ⟨v, q, r⟩ := h.2 i d e; ⟨v, q, r.ext hr x⟩⟩
theorem SR.set (h : SR K H G σ η) {d : D} {v : V} (i : Nat) (r : VR K H G d v) : SR K H G (σ.set i (some v)) (η.set i (some d)) := by
  refine ⟨by rw [List.length_set, List.length_set, h.1], fun j e q => ?_⟩
  by_cases hj : i = j
  · subst hj
    by_cases hl : i < η.length
    · rw [List.getElem?_set_self hl] at q
      cases q
      exact ⟨v, by rw [List.getElem?_set_self (by rw [← h.1]; exact hl)], r⟩
    · rw [List.getElem?_eq_none (by rw [List.length_set]; omega)] at q; cases q
  · rw [List.getElem?_set_ne hj] at q
    obtain ⟨u, a, b⟩ := h.2 j e q
    exact ⟨u, by rw [List.getElem?_set_ne hj]; exact a, b⟩
/-- less is known -/
def Le (η η' : DSt) : Prop := η.length = η'.length ∧ ∀ (i : Nat) (d : D), η[i]? = some (some d) → η'[i]? = some (some d)
theorem Le.refl (η : DSt) : Le η η := ⟨rfl, fun _ _ h => h⟩
theorem SR.le (h : SR K H G σ η') (l : Le η η') : SR K H G σ η := ⟨l.1.trans h.1, fun i d e => h.2 i d (l.2 i d e)⟩
theorem SR.none (h : SR K H G σ η) (i : Nat) (o : Option V) : SR K H G (σ.set i o) (η.set i Option.none) := by
  refine ⟨by rw [List.length_set, List.length_set, h.1], fun j e q => ?_⟩
  by_cases hj : i = j
  · subst hj
    by_cases hl : i < η.length
    · rw [List.getElem?_set_self hl] at q; cases q
    · rw [List.getElem?_eq_none (by rw [List.length_set]; omega)] at q; cases q
  · rw [List.getElem?_set_ne hj] at q
    obtain ⟨u, a, b⟩ := h.2 j e q
    exact ⟨u, by rw [List.getElem?_set_ne hj]; exact a, b⟩
theorem Le.nil : Le [] [] := Le.refl _
theorem Le.keep {o : Option D} {η η' : DSt} (h : Le η η') : Le (o :: η) (o :: η') :=
  ⟨by rw [List.length_cons, List.length_cons, h.1], fun i d e => by
    cases i with
    | zero => simpa using e
    | succ i => simpa using h.2 i d (by simpa using e)⟩
theorem Le.drop {o : Option D} {η η' : DSt} (h : Le η η') : Le (none :: η) (o :: η') :=
  ⟨by rw [List.length_cons, List.length_cons, h.1], fun i d e => by
    cases i with
    | zero => simp at e
    | succ i => simpa using h.2 i d (by simpa using e)⟩
end
end DL
namespace DL
open PySem PySem.Spec PyProof.Rows L2

/-! ### readings over trees -/
abbrev DVK := D → DHp → Prop
abbrev DTE := DSt → DHp → DVK → Prop
abbrev DTT := DSt → DHp → (Bool → DHp → Prop) → Prop
abbrev DTA := DSt → DHp → (List D → DHp → Prop) → Prop
structure DEnds where
  nx : DSt → DHp → Prop
  rt : DVK
  bk : DSt → DHp → Prop := fun _ _ => False
  ct : DSt → DHp → Prop := fun _ _ => False
abbrev DTS := DEnds → DSt → DHp → Prop
abbrev DTG := D → DSt → DHp → (DSt → DHp → Prop) → Prop
abbrev DTGs := List D → DSt → DHp → (DSt → DHp → Prop) → Prop

def liftE (K : Ml) (T : DTE) : TE := fun σ H Q => ∃ η G P, SR K H G σ η ∧ HR K H G ∧ T η G P ∧ ∀ d G' v H', P d G' → Ext H G H' G' → HR K H' G' → VR K H' G' d v → Q v H'
def liftT (K : Ml) (T : DTT) : TT := fun σ H Q => ∃ η G P, SR K H G σ η ∧ HR K H G ∧ T η G P ∧ ∀ b G' H', P b G' → Ext H G H' G' → HR K H' G' → Q b H'
def liftA (K : Ml) (T : DTA) : TA := fun σ H Q => ∃ η G P, SR K H G σ η ∧ HR K H G ∧ T η G P ∧ ∀ ds G' vs H', P ds G' → Ext H G H' G' → HR K H' G' → VRs K H' G' ds vs → Q vs H'
structure EndsR (K : Ml) (H : Hp) (G : DHp) (F : DEnds) (E : Ends) : Prop where
  nx : ∀ η G' σ H', F.nx η G' → Ext H G H' G' → SR K H' G' σ η → HR K H' G' → E.nx σ H'
  rt : ∀ d G' v H', F.rt d G' → Ext H G H' G' → HR K H' G' → VR K H' G' d v → E.rt v H'
  bk : ∀ η G' σ H', F.bk η G' → Ext H G H' G' → SR K H' G' σ η → HR K H' G' → E.bk σ H'
  ct : ∀ η G' σ H', F.ct η G' → Ext H G H' G' → SR K H' G' σ η → HR K H' G' → E.ct σ H'
theorem EndsR.ext {K H G H1 G1 F E} (h : EndsR K H G F E) (x : Ext H G H1 G1) : EndsR K H1 G1 F E :=
  ⟨fun η G' σ H' p y s r => h.nx η G' σ H' p (x.trans y) s r, fun d G' v H' p y r q => h.rt d G' v H' p (x.trans y) r q, fun η G' σ H' p y s r => h.bk η G' σ H' p (x.trans y) s r, fun η G' σ H' p y s r => h.ct η G' σ H' p (x.trans y) s r⟩
def liftS (K : Ml) (T : DTS) : TS := fun E σ H => ∃ η G F, SR K H G σ η ∧ HR K H G ∧ T F η G ∧ EndsR K H G F E
/-- is: the slots that a target may change -/
def liftG (K : Ml) (is : List Nat) (T : DTG) : TG := fun v σ H Q => ∃ d η G P, VR K H G d v ∧ SR K H G σ η ∧ HR K H G ∧ T d η G P ∧ ∀ η' G' σ' H', P η' G' → Ext H G H' G' → SR K H' G' σ' η' → HR K H' G' → wipe σ' is = wipe σ is → Q σ' H'
def liftGs (K : Ml) (is : List Nat) (T : DTGs) : TGs := fun vs σ H Q => ∃ ds η G P, VRs K H G ds vs ∧ SR K H G σ η ∧ HR K H G ∧ T ds η G P ∧ ∀ η' G' σ' H', P η' G' → Ext H G H' G' → SR K H' G' σ' η' → HR K H' G' → wipe σ' is = wipe σ is → Q σ' H'

abbrev PED (X : Cx) (e : Expr) (T : DTE) : Prop := PE X e (liftE X.ml T)
abbrev PTD (X : Cx) (e : Expr) (T : DTT) : Prop := PT X e (liftT X.ml T)
abbrev PWD (X : Cx) (e : Expr) (T : DTT) : Prop := PW X e (liftT X.ml T)
abbrev PAD (X : Cx) (es : List Expr) (T : DTA) : Prop := PA X es (liftA X.ml T)
abbrev PSD (X : Cx) (st : Stmt) (T : DTS) : Prop := PS X st (liftS X.ml T)
abbrev PSsD (X : Cx) (st : List Stmt) (T : DTS) : Prop := PSs X st (liftS X.ml T)
abbrev PGD (X : Cx) (e : Expr) (is : List Nat) (T : DTG) : Prop := PG X e (liftG X.ml is T)
abbrev PGsD (X : Cx) (es : List Expr) (is : List Nat) (T : DTGs) : Prop := PGs X es (liftGs X.ml is T)

section
variable {X : Cx}
theorem PE.impI {e : Expr} {t t' : TE} (h : PE X e t) (i : ∀ pins s σ H Q, Inv X pins σ H s → t' σ H Q → t σ H Q) : PE X e t' := ⟨fun pins s σ H Q I q => h.run pins s σ H Q I (i _ _ _ _ _ I q)⟩
theorem PT.impI {e : Expr} {t t' : TT} (h : PT X e t) (i : ∀ pins s σ H Q, Inv X pins σ H s → t' σ H Q → t σ H Q) : PT X e t' := ⟨fun pins s σ H Q I q => h.run pins s σ H Q I (i _ _ _ _ _ I q)⟩
theorem PW.impI {e : Expr} {t t' : TT} (h : PW X e t) (i : ∀ pins s σ H Q, Inv X pins σ H s → t' σ H Q → t σ H Q) : PW X e t' := ⟨fun w pins s σ H Q I q => h.run w pins s σ H Q I (i _ _ _ _ _ I q)⟩
theorem PA.impI {es : List Expr} {t t' : TA} (h : PA X es t) (i : ∀ pins s σ H Q, Inv X pins σ H s → t' σ H Q → t σ H Q) : PA X es t' := ⟨fun w pins s σ H Q I q => h.run w pins s σ H Q I (i _ _ _ _ _ I q)⟩
theorem PS.impI {e : Stmt} {t t' : TS} (h : PS X e t) (i : ∀ pins s σ H E, Inv X pins σ H s → t' E σ H → t E σ H) : PS X e t' := ⟨fun pins s σ H E I q => h.run pins s σ H E I (i _ _ _ _ _ I q)⟩
theorem PSs.impI {e : List Stmt} {t t' : TS} (h : PSs X e t) (i : ∀ pins s σ H E, Inv X pins σ H s → t' E σ H → t E σ H) : PSs X e t' := ⟨fun pins s σ H E I q => h.run pins s σ H E I (i _ _ _ _ _ I q)⟩
theorem PG.impI {e : Expr} {t t' : TG} (h : PG X e t) (i : ∀ pins s σ H v Q, Inv X pins σ H s → t' v σ H Q → t v σ H Q) : PG X e t' := ⟨fun pins s σ H v u Q I r q => h.run pins s σ H v u Q I r (i _ _ _ _ _ _ I q)⟩
theorem PGs.impI {e : List Expr} {t t' : TGs} (h : PGs X e t) (i : ∀ pins s σ H v Q, Inv X pins σ H s → t' v σ H Q → t v σ H Q) : PGs X e t' := ⟨fun pins s σ H v u Q I r q => h.run pins s σ H v u Q I r (i _ _ _ _ _ _ I q)⟩
theorem Inv.noK {pins : List (Addr × Obj)} {σ : L2.St} {H : Hp} {s : Shared} (I : Inv X pins σ H s) {a : Addr} {o : Obj} (h : X.K.lookup a = some o) : H a = none :=
  (I.bs a o (I.ok.mod.kin a o h)).2

/-! ### names, constants -/
def dName (i : Nat) : DTE := fun η G Q => match η[i]? with
  | some (some d) => Q d G
  | _ => False
theorem ped_name (i : Nat) {x : Str} {pos : Pos} (hN : X.N[i]? = some x := by rfl) (hv : Vis X.env.scope x := by first | exact Or.inl rfl | exact Or.inr (Or.inl rfl) | exact Or.inr (Or.inr rfl)) (hd : (x == ("__debug__" : Str)) = false := by decide)
    (hcd : (x == ("__classdict__" : Str)) = false := by decide) : PED X (.Name x pos) (dName i) :=
  PE.impI (pe_var hN hv hd hcd) fun pins s σ H Q I ⟨η, G, P, hs, hr, t, k⟩ => by
    unfold dName at t
    split at t
    · rename_i d e
      obtain ⟨v, q, r⟩ := hs.2 i d e
      exact ⟨v, q, k d G v H t (.refl _ _) hr r⟩
    · exact t.elim
def dC (d : D) : DTE := fun _ G Q => Q d G
theorem ped_c {e : Expr} {d : D} {v : V} (h : PE X e (tC v)) (r : ∀ H G, VR X.ml H G d v) : PED X e (dC d) :=
  PE.impI h fun pins s σ H Q I ⟨η, G, P, hs, hr, t, k⟩ => k d G v H t (.refl _ _) hr (r H G)
theorem ped_int {i : Int} {j pos} : PED X (.Constant (.int i) j pos) (dC (.int i)) := ped_c pe_int fun _ _ => by rw [VR]
theorem ped_bl {i : Bool} {j pos} : PED X (.Constant (.bool i) j pos) (dC (.bl i)) := ped_c pe_bl fun _ _ => by rw [VR]
theorem ped_str {i : Str} {j pos} : PED X (.Constant (.str i) j pos) (dC (.str i)) := ped_c pe_str fun _ _ => by rw [VR]
theorem ped_non {j pos} : PED X (.Constant .none j pos) (dC .non) := ped_c pe_non fun _ _ => by rw [VR]
theorem ped_gint {x : Str} {i : Int} {t : Tok} {pos : Pos} (hm : X.mg x = some (.int i t)) (hg : Gl X x := by rfl) (hd : (x == ("__debug__" : Str)) = false := by decide) : PED X (.Name x pos) (dC (.int i)) :=
  ped_c (pe_glob (v := .int i) hg hm ⟨t, rfl⟩ hd) fun _ _ => by rw [VR]
theorem ped_gstr {x y : Str} {t : Tok} {pos : Pos} (hm : X.mg x = some (.str y t)) (hg : Gl X x := by rfl) (hd : (x == ("__debug__" : Str)) = false := by decide) : PED X (.Name x pos) (dC (.str y)) :=
  ped_c (pe_glob (v := .str y) hg hm ⟨t, rfl⟩ hd) fun _ _ => by rw [VR]
theorem ped_gref {x : Str} {a : Addr} {pos : Pos} (hm : X.mg x = some (.ref a)) (hg : Gl X x := by rfl) (hd : (x == ("__debug__" : Str)) = false := by decide) : PED X (.Name x pos) (dC (.ref a)) :=
  ped_c (pe_glob (v := .ref a) hg hm rfl hd) fun _ _ => by rw [VR]
/-- a written tuple of the module -/
def KTup (K : Ml) (a : Addr) (d : D) : Prop := ∀ H G, VR K H G d (.ref a)
theorem ped_gtup {x : Str} {a : Addr} {d : D} {pos : Pos} (hm : X.mg x = some (.ref a)) (hk : KTup X.ml a d) (hg : Gl X x := by rfl) (hd : (x == ("__debug__" : Str)) = false := by decide) : PED X (.Name x pos) (dC d) :=
  ped_c (pe_glob (v := .ref a) hg hm rfl hd) hk
theorem ped_bltn {x : Str} {n : String} {pos : Pos} (hm : X.mg x = none) (hv : bootBuiltins x = some (.type n)) (hg : Gl X x := by rfl) (hn : x ≠ "__name__" := by decide) (hd : (x == ("__debug__" : Str)) = false := by decide) : PED X (.Name x pos) (dC (.ty n)) :=
  ped_c (pe_bltn (v := .ty n) hg hm hv rfl hn hd) fun _ _ => by rw [VR]

/-! ### arguments, displays -/
def dNil : DTA := fun _ G Q => Q [] G
def dCons (T : DTE) (R : DTA) : DTA := fun η G Q => T η G fun d G1 => R η G1 fun ds G2 => Q (d :: ds) G2
theorem pad_nil : PAD X [] dNil := PA.impI pa_nil fun pins s σ H Q I ⟨η, G, P, hs, hr, t, k⟩ => k [] G [] H t (.refl _ _) hr .nil
theorem pad_cons {e : Expr} {es : List Expr} {T : DTE} {R : DTA} (ha : PED X e T) (hb : PAD X es R) (hs : starEach (e :: es) X.env = (false, eval e X.env) :: starEach es X.env := by rfl) : PAD X (e :: es) (dCons T R) :=
  PA.impI (pa_cons ha hb hs) fun pins s σ H Q I ⟨η, G, P, hs, hr, t, k⟩ =>
    ⟨η, G, _, hs, hr, t, fun d1 G1 v1 H1 p1 x1 r1 q1 => ⟨η, G1, _, hs.ext hr x1, r1, p1, fun ds G2 vs H2 p2 x2 r2 q2 => k (d1 :: ds) G2 (v1 :: vs) H2 p2 (x1.trans x2) r2 (.cons (q1.ext r1 x2) q2)⟩⟩
/-- a tuple -/
def dTup (T : DTA) : DTE := fun η G Q => T η G fun ds G1 => ds.length ≤ 1000 ∧ Q (.nd .tup ds) G1
theorem le1000 {n : Nat} (h : n ≤ 1000) : n ≤ sizeLine := Nat.le_trans h (by decide)
theorem ped_tup {es : List Expr} {x1 : Nat} {pos : Pos} {T : DTA} (h : PAD X es T) : PED X (.Tuple es x1 pos) (dTup T) :=
  PE.impI (pe_tup h) fun pins s σ H Q I ⟨η, G, P, hs, hr, t, k⟩ =>
    ⟨η, G, _, hs, hr, t, fun ds G1 vs H1 ⟨pl, p1⟩ x1 r1 q1 => ⟨by rw [q1.length]; exact le1000 pl, fun p hp => by
      have x2 : Ext H1 G1 (upd H1 p (.tup vs)) G1 := .laid hp
      refine k _ G1 (.ref p) _ p1 (x1.trans x2) (r1.laid hp) ?_
      rw [VR]
      exact ⟨p, vs, rfl, .inl (.inl upd_same), q1.ext r1 x2⟩⟩⟩
/-- a new list that is not changed later -/
def dLstF (T : DTA) : DTE := fun η G Q => T η G fun ds G1 => ds.length ≤ 1000 ∧ Q (.nd .lst ds) G1
theorem ped_lstF {es : List Expr} {pos : Pos} {T : DTA} (h : PAD X es T) : PED X (.List es pos) (dLstF T) :=
  PE.impI (pe_lst h) fun pins s σ H Q I ⟨η, G, P, hs, hr, t, k⟩ =>
    ⟨η, G, _, hs, hr, t, fun ds G1 vs H1 ⟨pl, p1⟩ x1 r1 q1 => ⟨by rw [q1.length]; exact le1000 pl, fun p hp => by
      have x2 : Ext H1 G1 (upd H1 p (.lst vs)) G1 := .laid hp
      refine k _ G1 (.ref p) _ p1 (x1.trans x2) (r1.laid hp) ?_
      rw [VR]
      exact ⟨p, vs, rfl, ⟨r1.free hp, upd_same⟩, q1.ext r1 x2⟩⟩⟩
/-- a new list that is changed later -/
def dLstM (T : DTA) : DTE := fun η G Q => T η G fun ds G1 => ds.length ≤ 1000 ∧ ∀ p, G1 p = none → Q (.ref p) (up G1 p (.lst ds))
theorem ped_lstM {es : List Expr} {pos : Pos} {T : DTA} (h : PAD X es T) : PED X (.List es pos) (dLstM T) :=
  PE.impI (pe_lst h) fun pins s σ H Q I ⟨η, G, P, hs, hr, t, k⟩ =>
    ⟨η, G, _, hs, hr, t, fun ds G1 vs H1 ⟨pl, p1⟩ x1 r1 q1 => ⟨by rw [q1.length]; exact le1000 pl, fun p hp => by
      have x2 : Ext H1 G1 (upd H1 p (.lst vs)) (up G1 p (.lst ds)) := .new hp
      refine k _ _ (.ref p) _ (p1 p (r1.free hp)) (x1.trans x2) (r1.new hp ⟨vs, upd_same, q1.ext r1 x2⟩) ?_
      rw [VR]⟩⟩

/-! ### operators -/
abbrev DR2 := D → D → DHp → DVK → Prop
def liftR2 (K : Ml) (r : DR2) : R2 := fun x y H Q => ∃ dx dy G P, HR K H G ∧ VR K H G dx x ∧ VR K H G dy y ∧ r dx dy G P ∧ ∀ d G' v H', P d G' → Ext H G H' G' → HR K H' G' → VR K H' G' d v → Q v H'
abbrev OpD (X : Cx) (f : Value → Value → Sem Value) (r : DR2) : Prop := OpR X f (liftR2 X.ml r)
def dOp (r : DR2) (Ta Tb : DTE) : DTE := fun η G Q => Ta η G fun x G1 => Tb η G1 fun y G2 => r x y G2 Q
theorem op_lift {r : DR2} {Ta Tb : DTE} {K : Ml} {σ : L2.St} {H : Hp} {Q : VK} (h : liftE K (dOp r Ta Tb) σ H Q) : tOp (liftR2 K r) (liftE K Ta) (liftE K Tb) σ H Q :=
  let ⟨η, G, P, hs, hr, t, k⟩ := h
  ⟨η, G, _, hs, hr, t, fun d1 G1 v1 H1 p1 x1 r1 q1 => ⟨η, G1, _, hs.ext hr x1, r1, p1, fun d2 G2 v2 H2 p2 x2 r2 q2 =>
    ⟨d1, d2, G2, P, r2, q1.ext r1 x2, q2, p2, fun d G' v H' p x r q => k d G' v H' p ((x1.trans x2).trans x) r q⟩⟩⟩
theorem ped_op {a b : Expr} {op : Operator} {pos : Pos} {r : DR2} {Ta Tb : DTE} (ho : OpD X (binaryOp op) r) (ha : PED X a Ta) (hb : PED X b Tb) : PED X (.BinOp a op b pos) (dOp r Ta Tb) :=
  PE.impI (pe_op ho ha hb) fun _ _ _ _ _ _ h => op_lift h
theorem ped_cmp {a b : Expr} {op : CmpOp} {pos : Pos} {r : DR2} {Ta Tb : DTE} (ho : OpD X (compareOp op) r) (ha : PED X a Ta) (hb : PED X b Tb) (hm : behindInMarks op b = false) : PED X (.Compare a [op] [b] pos) (dOp r Ta Tb) :=
  PE.impI (pe_cmpR ho ha hb hm) fun _ _ _ _ _ _ h => op_lift h
/-- a test by a truth value -/
def dTest (T : DTE) : DTT := fun η G Q => T η G fun d G1 => match d with
  | .bl b => Q b G1
  | _ => False
theorem test_lift {T : DTE} {K : Ml} {σ : L2.St} {H : Hp} {Q : Bool → Hp → Prop} (h : liftT K (dTest T) σ H Q) : tB (liftE K T) σ H Q := by
  obtain ⟨η, G, P, hs, hr, t, k⟩ := h
  refine ⟨η, G, _, hs, hr, t, fun d1 G1 v1 H1 p1 x1 r1 q1 => ?_⟩
  cases d1 with
  | bl b => rw [VR] at q1; exact ⟨b, q1, k b G1 H1 p1 x1 r1⟩
  | _ => exact p1.elim
theorem ptd_cmp {a b : Expr} {op : CmpOp} {pos : Pos} {r : DR2} {Ta Tb : DTE} (ho : OpD X (compareOp op) r) (ha : PED X a Ta) (hb : PED X b Tb) (hm : behindInMarks op b = false) : PTD X (.Compare a [op] [b] pos) (dTest (dOp r Ta Tb)) :=
  PT.impI (pt_cmpR ho ha hb hm) fun _ _ σ H Q _ h => by
    have h2 := test_lift h
    obtain ⟨η, G, P, hs, hr, t, k⟩ := h2
    exact op_lift ⟨η, G, P, hs, hr, t, k⟩
theorem ptd_val {e : Expr} {T : DTE} (h : PED X e T) (he : ∀ whole, isTrue e X.env whole = (do let v ← whole; standAt e.pos; holding [v] (truthy v)) := by intro _; rfl) : PTD X e (dTest T) :=
  PT.impI (pt_val h he) fun _ _ σ H Q _ h => test_lift h
/-! ### and, or, not, if -/
def dAnd (t u : DTT) : DTT := fun η G Q => t η G fun c G1 => if c = true then u η G1 Q else Q false G1
def dOr (t u : DTT) : DTT := fun η G Q => t η G fun c G1 => if c = true then Q true G1 else u η G1 Q
def dNot (t : DTT) : DTT := fun η G Q => t η G fun c G1 => Q (!c) G1
theorem ptd_w {e : Expr} {T : DTT} (h : PWD X e T) : PTD X e T := h.pt
theorem pwd_and1 {a : Expr} {T : DTT} {pos : Pos} (h : PTD X a T) : PWD X (.BoolOp .And [a] pos) T := pw_and1 h
theorem pwd_or1 {a : Expr} {T : DTT} {pos : Pos} (h : PTD X a T) : PWD X (.BoolOp .Or [a] pos) T := pw_or1 h
theorem pwd_and {a b : Expr} {rest : List Expr} {t u : DTT} {pos : Pos} (ha : PTD X a t) (hb : PWD X (.BoolOp .And (b :: rest) pos) u) : PWD X (.BoolOp .And (a :: b :: rest) pos) (dAnd t u) :=
  PW.impI (pw_and ha hb) fun _ _ σ H Q _ ⟨η, G, P, hs, hr, t, k⟩ => ⟨η, G, _, hs, hr, t, fun c G1 H1 p1 x1 r1 => by
    by_cases hc : c = true
    · subst hc
      rw [if_pos rfl] at p1 ⊢
      exact ⟨η, G1, P, hs.ext hr x1, r1, p1, fun b G2 H2 p2 x2 r2 => k b G2 H2 p2 (x1.trans x2) r2⟩
    · rw [if_neg hc] at p1 ⊢
      exact k false G1 H1 p1 x1 r1⟩
theorem pwd_or {a b : Expr} {rest : List Expr} {t u : DTT} {pos : Pos} (ha : PTD X a t) (hb : PWD X (.BoolOp .Or (b :: rest) pos) u) : PWD X (.BoolOp .Or (a :: b :: rest) pos) (dOr t u) :=
  PW.impI (pw_or ha hb) fun _ _ σ H Q _ ⟨η, G, P, hs, hr, t, k⟩ => ⟨η, G, _, hs, hr, t, fun c G1 H1 p1 x1 r1 => by
    by_cases hc : c = true
    · subst hc
      rw [if_pos rfl] at p1 ⊢
      exact k true G1 H1 p1 x1 r1
    · rw [if_neg hc] at p1 ⊢
      exact ⟨η, G1, P, hs.ext hr x1, r1, p1, fun b G2 H2 p2 x2 r2 => k b G2 H2 p2 (x1.trans x2) r2⟩⟩
theorem ptd_not {a : Expr} {T : DTT} {pos : Pos} (h : PTD X a T) : PTD X (.UnaryOp .Not a pos) (dNot T) :=
  PT.impI (pt_not h) fun _ _ σ H Q _ ⟨η, G, P, hs, hr, t, k⟩ => ⟨η, G, _, hs, hr, t, fun c G1 H1 p1 x1 r1 => k (!c) G1 H1 p1 x1 r1⟩
/-- as values; all but the last are truth values -/
def dAndV (Ta Tb : DTE) : DTE := fun η G Q => Ta η G fun d G1 => match d with
  | .bl c => if c = true then Tb η G1 Q else Q (.bl false) G1
  | _ => False
def dOrV (Ta Tb : DTE) : DTE := fun η G Q => Ta η G fun d G1 => match d with
  | .bl c => if c = true then Q (.bl true) G1 else Tb η G1 Q
  | _ => False
def dNotV (Ta : DTE) : DTE := fun η G Q => Ta η G fun d G1 => match d with
  | .bl c => Q (.bl (!c)) G1
  | _ => False
theorem ped_one {op : BoolOp} {a : Expr} {T : DTE} {pos : Pos} (h : PED X a T) : PED X (.BoolOp op [a] pos) T := pe_one h
theorem ped_and {a b : Expr} {rest : List Expr} {Ta Tb : DTE} {pos : Pos} (ha : PED X a Ta) (hb : PED X (.BoolOp .And (b :: rest) pos) Tb) : PED X (.BoolOp .And (a :: b :: rest) pos) (dAndV Ta Tb) :=
  PE.impI (pe_and ha hb) fun _ _ σ H Q _ ⟨η, G, P, hs, hr, t, k⟩ => ⟨η, G, _, hs, hr, t, fun d G1 v H1 p1 x1 r1 q1 => by
    cases d with
    | bl c =>
      rw [VR] at q1
      refine ⟨c, q1, ?_⟩
      by_cases hc : c = true
      · subst hc
        have p1 : Tb η G1 P := by simpa using p1
        rw [if_pos rfl]
        exact ⟨η, G1, P, hs.ext hr x1, r1, p1, fun d G2 v H2 p2 x2 r2 q => k d G2 v H2 p2 (x1.trans x2) r2 q⟩
      · have p1 : P (.bl false) G1 := by simpa [hc] using p1
        rw [if_neg hc]
        exact k _ G1 _ H1 p1 x1 r1 (by rw [VR])
    | _ => exact p1.elim⟩
theorem ped_or {a b : Expr} {rest : List Expr} {Ta Tb : DTE} {pos : Pos} (ha : PED X a Ta) (hb : PED X (.BoolOp .Or (b :: rest) pos) Tb) : PED X (.BoolOp .Or (a :: b :: rest) pos) (dOrV Ta Tb) :=
  PE.impI (pe_or ha hb) fun _ _ σ H Q _ ⟨η, G, P, hs, hr, t, k⟩ => ⟨η, G, _, hs, hr, t, fun d G1 v H1 p1 x1 r1 q1 => by
    cases d with
    | bl c =>
      rw [VR] at q1
      refine ⟨c, q1, ?_⟩
      by_cases hc : c = true
      · subst hc
        have p1 : P (.bl true) G1 := by simpa using p1
        rw [if_pos rfl]
        exact k _ G1 _ H1 p1 x1 r1 (by rw [VR])
      · have p1 : Tb η G1 P := by simpa [hc] using p1
        rw [if_neg hc]
        exact ⟨η, G1, P, hs.ext hr x1, r1, p1, fun d G2 v H2 p2 x2 r2 q => k d G2 v H2 p2 (x1.trans x2) r2 q⟩
    | _ => exact p1.elim⟩
theorem ped_not {a : Expr} {Ta : DTE} {pos : Pos} (ha : PED X a Ta) : PED X (.UnaryOp .Not a pos) (dNotV Ta) :=
  PE.impI (pe_not ha) fun _ _ σ H Q _ ⟨η, G, P, hs, hr, t, k⟩ => ⟨η, G, _, hs, hr, t, fun d G1 v H1 p1 x1 r1 q1 => by
    cases d with
    | bl c =>
      rw [VR] at q1
      exact ⟨c, q1, k _ G1 _ H1 p1 x1 r1 (by rw [VR])⟩
    | _ => exact p1.elim⟩
def dIf (t : DTT) (Ta Tb : DTE) : DTE := fun η G Q => t η G fun c G1 => if c = true then Ta η G1 Q else Tb η G1 Q
theorem ped_if {c a b : Expr} {t : DTT} {Ta Tb : DTE} {pos : Pos} (hc : PTD X c t) (ha : PED X a Ta) (hb : PED X b Tb) : PED X (.IfExp c a b pos) (dIf t Ta Tb) :=
  PE.impI (pe_ifExp hc ha hb) fun _ _ σ H Q _ ⟨η, G, P, hs, hr, t, k⟩ => ⟨η, G, _, hs, hr, t, fun c G1 H1 p1 x1 r1 => by
    by_cases hc : c = true
    · subst hc
      rw [if_pos rfl] at p1 ⊢
      exact ⟨η, G1, P, hs.ext hr x1, r1, p1, fun d G2 v H2 p2 x2 r2 q => k d G2 v H2 p2 (x1.trans x2) r2 q⟩
    · rw [if_neg hc] at p1 ⊢
      exact ⟨η, G1, P, hs.ext hr x1, r1, p1, fun d G2 v H2 p2 x2 r2 q => k d G2 v H2 p2 (x1.trans x2) r2 q⟩⟩

/-! ### statements -/
def dNext : DTS := fun F η G => F.nx η G
def dSeq (t u : DTS) : DTS := fun F η G => t { F with nx := u F } η G
theorem pssd_nil : PSsD X [] dNext := PSs.impI pss_nil fun _ _ σ H E _ ⟨η, G, F, hs, hr, t, k⟩ => k.nx η G σ H t (.refl _ _) hs hr
theorem pssd_cons {st : Stmt} {rest : List Stmt} {t u : DTS} (h1 : PSD X st t) (h2 : PSsD X rest u) : PSsD X (st :: rest) (dSeq t u) :=
  PSs.impI (pss_cons h1 h2) fun _ _ σ H E _ ⟨η, G, F, hs, hr, t, k⟩ => ⟨η, G, _, hs, hr, t,
    ⟨fun η' G' σ' H' p x s r => ⟨η', G', F, s, r, p, k.ext x⟩, k.rt, k.bk, k.ct⟩⟩
theorem pssd_one {st : Stmt} {t : DTS} (h1 : PSD X st t) : PSsD X [st] t := pss_one h1
def dBreak : DTS := fun F η G => F.bk η G
def dCont : DTS := fun F η G => F.ct η G
theorem psd_pass {pos} : PSD X (.Pass pos) dNext := PS.impI ps_pass fun _ _ σ H E _ ⟨η, G, F, hs, hr, t, k⟩ => k.nx η G σ H t (.refl _ _) hs hr
theorem psd_break {pos} : PSD X (.Break pos) dBreak := PS.impI ps_break fun _ _ σ H E _ ⟨η, G, F, hs, hr, t, k⟩ => k.bk η G σ H t (.refl _ _) hs hr
theorem psd_continue {pos} : PSD X (.Continue pos) dCont := PS.impI ps_continue fun _ _ σ H E _ ⟨η, G, F, hs, hr, t, k⟩ => k.ct η G σ H t (.refl _ _) hs hr
def dDrop (T : DTE) : DTS := fun F η G => T η G fun _ G1 => F.nx η G1
theorem psd_expr {e : Expr} {T : DTE} {pos : Pos} (he : PED X e T) (hs : swapsWith e none pos.line X.env = pure false := by rfl) : PSD X (.Expr e pos) (dDrop T) :=
  PS.impI (ps_expr he hs) fun _ _ σ H E _ ⟨η, G, F, hs, hr, t, k⟩ => ⟨η, G, _, hs, hr, t, fun d G1 v H1 p1 x1 r1 q1 => k.nx η G1 σ H1 p1 x1 (hs.ext hr x1) r1⟩
def dRet (T : DTE) : DTS := fun F η G => T η G F.rt
theorem psd_ret {e : Expr} {T : DTE} {pos : Pos} (he : PED X e T) : PSD X (.Return (some e) pos) (dRet T) :=
  PS.impI (ps_ret he) fun _ _ σ H E _ ⟨η, G, F, hs, hr, t, k⟩ => ⟨η, G, _, hs, hr, t, fun d G1 v H1 p1 x1 r1 q1 => k.rt d G1 v H1 p1 x1 r1 q1⟩
theorem Inv.fz {pins : List (Addr × Obj)} {σ : L2.St} {H : Hp} {G : DHp} {s : Shared} {p : Addr} {o : DO} (I : Inv X pins σ H s) (hr : HR X.ml H G) (h : G p = some o) : ∃ H', Fz H H' p o ∧ Inv X pins σ H' s := by
  have q := hr p o h
  cases o with
  | lst ds => exact ⟨H, rfl, I⟩
  | ins C fs => exact ⟨H, rfl, I⟩
  | dK kvs =>
    obtain ⟨ws, e, _⟩ := q
    obtain ⟨od, I'⟩ := I.lock e trivial
    exact ⟨_, ⟨_, od, e, trivial, rfl⟩, I'⟩
  | dN kvs => exact ⟨H, rfl, I⟩
/-- what is made is changed no more -/
def dFz (T : DTE) : DTE := fun η G Q => T η G fun d G1 => match d with
  | .ref a => match G1 a with
    | some o => Q o.tree (dl G1 a)
    | none => False
  | d => Q d G1
theorem ped_fz {e : Expr} {T : DTE} (h : PED X e T) : PED X e (dFz T) := ⟨fun pins s σ H Q I ⟨η, G, P, hs, hr, t, k⟩ => by
  refine thn (h.run pins s σ H (fun v H1 => ∃ d G1, (match d with | .ref a => (match G1 a with | some o => P o.tree (dl G1 a) | none => False) | d => P d G1) ∧ Ext H G H1 G1 ∧ HR X.ml H1 G1 ∧ VR X.ml H1 G1 d v) I ⟨η, G, _, hs, hr, t, fun d G1 v H1 p x r q => ⟨d, G1, p, x, r, q⟩⟩) fun u s1 ⟨v, H1, I1, rv, d, G1, p, x, r, q⟩ => ?_
  cases d with
  | ref a =>
    rw [VR] at q
    subst q
    cases e : G1 a with
    | none =>
      have p : (match G1 a with | some o => P o.tree (dl G1 a) | none => False) := p
      rw [e] at p; exact p.elim
    | some o =>
      have p : (match G1 a with | some o => P o.tree (dl G1 a) | none => False) := p
      rw [e] at p
      obtain ⟨H2, f, I2⟩ := Inv.fz I1 r e
      obtain ⟨t1, t2, t3⟩ := r.tree e f
      exact ⟨_, H2, I2, rv, k _ _ _ _ p (x.trans t2) t3 t1⟩
  | _ => exact ⟨v, H1, I1, rv, k _ G1 v H1 p x r q⟩⟩
def dRetF (T : DTE) : DTS := dRet (dFz T)
theorem psd_retF {e : Expr} {T : DTE} {pos : Pos} (he : PED X e T) : PSD X (.Return (some e) pos) (dRetF T) := psd_ret (ped_fz he)
def dRetN : DTS := fun F _ G => F.rt .non G
theorem psd_retN {pos} : PSD X (.Return none pos) dRetN := PS.impI ps_retN fun _ _ σ H E _ ⟨η, G, F, hs, hr, t, k⟩ => k.rt .non G .non H t (.refl _ _) hr (by rw [VR])
def dIfS (c : DTT) (t u : DTS) : DTS := fun F η G => c η G fun b G1 => if b = true then t F η G1 else u F η G1
theorem psd_if {c : Expr} {a b : List Stmt} {tc : DTT} {t u : DTS} {pos : Pos} (hc : PTD X c tc) (ha : PSsD X a t) (hb : PSsD X b u) : PSD X (.If c a b pos) (dIfS tc t u) :=
  PS.impI (ps_if hc ha hb) fun _ _ σ H E _ ⟨η, G, F, hs, hr, t, k⟩ => ⟨η, G, _, hs, hr, t, fun c G1 H1 p1 x1 r1 => by
    by_cases hc : c = true
    · subst hc
      rw [if_pos rfl] at p1 ⊢
      exact ⟨η, G1, F, hs.ext hr x1, r1, p1, k.ext x1⟩
    · rw [if_neg hc] at p1 ⊢
      exact ⟨η, G1, F, hs.ext hr x1, r1, p1, k.ext x1⟩⟩
def dNever : DTS := fun _ _ _ => False
theorem psd_never {st : Stmt} : PSD X st dNever := PS.impI ps_never fun _ _ σ H E _ ⟨η, G, F, hs, hr, t, k⟩ => t
/-- the ways of an if joined: one wish R for the test's outcome -/
theorem if_cut {c : DTT} {t u : DTS} {F : DEnds} {η : DSt} {G : DHp} (b : Bool) (h : ∀ Q : Bool → DHp → Prop, Q b G → c η G Q) (h1 : b = true → t F η G) (h2 : b = false → u F η G) : dIfS c t u F η G := by
  refine h _ ?_
  cases b with
  | true => exact h1 rfl
  | false => exact h2 rfl

/-! ### targets -/
def gdName (i : Nat) : DTG := fun d η G Q => Q (η.set i (some d)) G
theorem wipe_set (σ : L2.St) (i : Nat) (o : Option V) : wipe (σ.set i o) [i] = wipe σ [i] := by
  unfold wipe wipe
  rw [List.set_set]
theorem pgd_name {i : Nat} {x : Str} {pos : Pos} (hN : X.N.Nodup) (hi : X.N[i]? = some x) (hx : Loc X.env.scope x) (hf : X.fn x = true ∨ X.env.scope.names.lookup x = some .local := by first | exact .inl rfl | exact .inr rfl | assumption) : PGD X (.Name x pos) [i] (gdName i) :=
  PG.impI (pg_name hN hi hx hf) fun _ _ σ H v Q _ ⟨d, η, G, P, q, hs, hr, t, k⟩ => k _ G _ H t (.refl _ _) (hs.set i q) hr (wipe_set _ _ _)
def gdNil : DTGs := fun ds η G Q => match ds with
  | [] => Q η G
  | _ => False
def gdCons (t : DTG) (u : DTGs) : DTGs := fun ds η G Q => match ds with
  | d :: r => t d η G fun η' G' => u r η' G' Q
  | [] => False
theorem pgsd_nil : PGsD X [] [] gdNil := PGs.impI pgs_nil fun _ _ σ H vs Q _ ⟨ds, η, G, P, q, hs, hr, t, k⟩ => by
  cases ds with
  | nil => exact ⟨q.nil_of, k η G σ H t (.refl _ _) hs hr rfl⟩
  | cons d ds => exact t.elim
theorem wipe_app (σ : L2.St) (js : List Nat) : ∀ is : List Nat, wipe σ (is ++ js) = wipe (wipe σ js) is
  | [] => rfl
  | i :: is => by
    show (wipe σ (is ++ js)).set i none = (wipe (wipe σ js) is).set i none
    rw [wipe_app σ js is]
theorem wipe_comm1 (σ : L2.St) (i : Nat) : ∀ js : List Nat, wipe (σ.set i none) js = (wipe σ js).set i none
  | [] => rfl
  | j :: js => by
    show (wipe (σ.set i none) js).set j none = ((wipe σ js).set j none).set i none
    rw [wipe_comm1 σ i js]
    by_cases h : i = j
    · subst h; rfl
    · rw [List.set_comm _ _ h]
theorem wipe_comm (σ : L2.St) (js : List Nat) : ∀ is : List Nat, wipe (wipe σ js) is = wipe (wipe σ is) js
  | [] => rfl
  | i :: is => by
    show (wipe (wipe σ js) is).set i none = wipe ((wipe σ is).set i none) js
    rw [wipe_comm σ js is, wipe_comm1]
theorem wipe_trans {a b c : L2.St} {is js : List Nat} (h1 : wipe b is = wipe a is) (h2 : wipe c js = wipe b js) : wipe c (is ++ js) = wipe a (is ++ js) := by
  rw [wipe_app, wipe_app, h2, wipe_comm b, h1, wipe_comm]
theorem pgsd_cons {e : Expr} {es : List Expr} {is js : List Nat} {t : DTG} {u : DTGs} (h1 : PGD X e is t) (h2 : PGsD X es js u)
    (hs : (assignEach (e :: es) X.env).map (·.2) = assign e X.env :: (assignEach es X.env).map (·.2) := by rfl) : PGsD X (e :: es) (is ++ js) (gdCons t u) :=
  PGs.impI (pgs_cons h1 h2 hs) fun _ _ σ H vs Q _ ⟨ds, η, G, P, q, hs, hr, t, k⟩ => by
    cases ds with
    | nil => exact t.elim
    | cons d ds =>
      obtain ⟨v, r, rfl, q1, q2⟩ := q.uncons
      exact ⟨v, r, rfl, d, η, G, _, q1, hs, hr, t, fun η1 G1 σ1 H1 p1 x1 s1 r1 w1 => ⟨ds, η1, G1, P, q2.ext hr x1, s1, r1, p1, fun η2 G2 σ2 H2 p2 x2 s2 r2 w2 => k η2 G2 σ2 H2 p2 (x1.trans x2) s2 r2 (wipe_trans w1 w2)⟩⟩
def gdTup (t : DTGs) (n : Nat) : DTG := fun d η G Q => match d with
  | .nd .tup ds => ds.length = n ∧ t ds η G Q
  | _ => False
theorem pgd_tup {es : List Expr} {is : List Nat} {k : Nat} {t : DTGs} {n : Nat} {pos : Pos} (hc : X.calm = true) (h : PGsD X es is t)
    (hn : (assignEach es X.env).length = n := by rfl) (hst : (assignEach es X.env).findIdx? (·.1) = none := by rfl) : PGD X (.Tuple es k pos) is (gdTup t n) :=
  PG.impI (pg_tup hc h hn hst) fun _ _ σ H v Q _ ⟨d, η, G, P, q, hs, hr, t, k⟩ => by
    cases d with
    | nd kd ds =>
      cases kd with
      | tup =>
        rw [VR] at q
        obtain ⟨a, vs, rfl, hh, q⟩ := q
        obtain ⟨hl, t⟩ := t
        exact ⟨a, vs, rfl, hh, q.length.trans hl, ds, η, G, P, q, hs, hr, t, k⟩
      | _ => exact t.elim
    | _ => exact t.elim
def dAsg (T : DTE) (g : DTG) : DTS := fun F η G => T η G fun d G1 => g d η G1 F.nx
theorem psd_asg {tg e : Expr} {T : DTE} {is : List Nat} {g : DTG} {pos : Pos} (he : PED X e T) (hg : PGD X tg is g) (hs : swapsWithSole [tg] e pos.line X.env = pure false := by rfl) (hw : swappedStores [tg] e X.env = pure none := by rfl)
    (h1 : (assignEach [tg] X.env).map (·.2) = [assign tg X.env] := by rfl) : PSD X (.Assign [tg] e pos) (dAsg T g) :=
  PS.impI (ps_asg he hg hs hw h1) fun _ _ σ H E _ ⟨η, G, F, hs, hr, t, k⟩ => ⟨η, G, _, hs, hr, t, fun d G1 v H1 p1 x1 r1 q1 =>
    ⟨d, η, G1, _, q1, hs.ext hr x1, r1, p1, fun η2 G2 σ2 H2 p2 x2 s2 r2 w2 => k.nx η2 G2 σ2 H2 p2 (x1.trans x2) s2 r2⟩⟩
theorem psd_set {i : Nat} {x : Str} {e : Expr} {T : DTE} {pos pos' : Pos} (hN : X.N.Nodup) (hi : X.N[i]? = some x) (hx : Loc X.env.scope x) (he : PED X e T) (hs : swapsWith e (some (.Name x pos')) pos.line X.env = pure false := by rfl) (hf : X.fn x = true ∨ X.env.scope.names.lookup x = some .local := by first | exact .inl rfl | exact .inr rfl | assumption) :
    PSD X (.Assign [.Name x pos'] e pos) (dAsg T (gdName i)) :=
  PS.impI (ps_set hN hi hx he hs hf) fun _ _ σ H E _ ⟨η, G, F, hs, hr, t, k⟩ => ⟨η, G, _, hs, hr, t, fun d G1 v H1 p1 x1 r1 q1 =>
    k.nx _ G1 _ H1 p1 x1 ((hs.ext hr x1).set i q1) r1⟩
/-- a, b = x, y -/
def dPar (i j : Nat) (T : DTA) : DTS := fun F η G => T η G fun ds G1 => match ds with
  | [d, e] => F.nx ((η.set i (some d)).set j (some e)) G1
  | _ => False
theorem psd_par {i j : Nat} {x y : Str} {a b : Expr} {T : DTA} {px py pt pos : Pos} {kt k2 pt2} (hc : X.calm = true) (hN : X.N.Nodup) (hi : X.N[i]? = some x) (hj : X.N[j]? = some y) (hij : i ≠ j)
    (hx : X.env.scope.names.lookup x = some .local) (hy : X.env.scope.names.lookup y = some .local) (ha : PAD X [a, b] T)
    (hw : swappedStores [.Tuple [.Name x px, .Name y py] kt pt] (.Tuple [a, b] k2 pt2) X.env = pure (some [x, y]))
    (hs : swapsWithSole [.Tuple [.Name x px, .Name y py] kt pt] (.Tuple [a, b] k2 pt2) pos.line X.env = pure false := by rfl) :
    PSD X (.Assign [.Tuple [.Name x px, .Name y py] kt pt] (.Tuple [a, b] k2 pt2) pos) (dPar i j T) :=
  PS.impI (ps_par hc hN hi hj hij hx hy ha hw hs) fun _ _ σ H E _ ⟨η, G, F, hs, hr, t, k⟩ => ⟨η, G, _, hs, hr, t, fun ds G1 vs H1 p1 x1 r1 q1 => by
    match ds, p1, q1 with
    | [d, e], p1, q1 =>
      obtain ⟨v, r, rfl, a1, q2⟩ := q1.uncons
      obtain ⟨w, r', rfl, a2, q3⟩ := q2.uncons
      rw [q3.nil_of]
      exact ⟨v, w, rfl, k.nx _ G1 _ H1 p1 x1 (((hs.ext hr x1).set i a1).set j a2) r1⟩
    | [], p1, _ => exact p1.elim
    | [_], p1, _ => exact p1.elim
    | _ :: _ :: _ :: _, p1, _ => exact p1.elim⟩
/-- the object in a slot is changed no more -/
def dFrz (i : Nat) (t : DTS) : DTS := fun F η G => match η[i]? with
  | some (some (.ref a)) => match G a with
    | some o => t F (η.set i (some o.tree)) (dl G a)
    | none => False
  | _ => False
theorem pssd_frz {sts : List Stmt} {t : DTS} (i : Nat) (h : PSsD X sts t) : PSsD X sts (dFrz i t) := ⟨fun pins s σ H E I ⟨η, G, F, hs, hr, t, k⟩ => by
    unfold dFrz at t
    split at t
    · rename_i a e
      split at t
      · rename_i o ho
        obtain ⟨v, q, r⟩ := hs.2 i _ e
        rw [VR] at r
        subst r
        obtain ⟨H2, f, I2⟩ := Inv.fz I hr ho
        obtain ⟨t1, t2, t3⟩ := hr.tree ho f
        have s2 : SR X.ml H2 (dl G a) σ (η.set i (some o.tree)) := by
          have z := (hs.ext hr t2).set i t1
          have e2 : σ.set i (some (V.ref a)) = σ := by
            refine List.ext_getElem? fun j => ?_
            by_cases hj : i = j
            · subst hj
              rw [List.getElem?_set_self (List.getElem?_eq_some_iff.mp q).1, q]
            · rw [List.getElem?_set_ne hj]
          rw [e2] at z; exact z
        exact h.run pins s σ H2 E I2 ⟨_, _, F, s2, t3, t, k.ext t2⟩
      · exact t.elim
    · exact t.elim⟩
end
end DL
namespace DL
open PySem PySem.Spec PyProof.Rows L2

/-! ### what is walked -/
abbrev DTI := DSt → DHp → (List D → (DHp → Prop) → DHp → Prop) → Prop
/-- the walk J gives the items ds, as long as ok holds -/
def ItD (K : Ml) (H1 : Hp) (G1 : DHp) (J : It) (ds : List D) (ok : DHp → Prop) : Prop :=
  ∀ i H G, Ext H1 G1 H G → HR K H G → ok G →
    (∀ d, ds[i]? = some d → J.go i H ∧ ∀ x H', J.yld i H x H' → Ext H G H' G ∧ HR K H' G ∧ VR K H' G d x) ∧ (ds.length ≤ i → J.stop i H)
def liftI (K : Ml) (T : DTI) : TI := fun σ H R => ∃ η G P, SR K H G σ η ∧ HR K H G ∧ T η G P ∧
  ∀ ds ok G' J H', P ds ok G' → Ext H G H' G' → HR K H' G' → ItD K H' G' J ds ok → R J H'
abbrev PID (X : Cx) (tg it : Expr) (T : DTI) : Prop := PI X tg it (liftI X.ml T)
def always : DHp → Prop := fun _ => True

section
variable {X : Cx} {tg : Expr}
theorem Itl.itD {K : Ml} {H1 : Hp} {G1 : DHp} {a : Addr} {ds : List D} {ok : DHp → Prop} (h : ∀ H G, Ext H1 G1 H G → HR K H G → ok G → ∃ vs, SqL K.K H a vs ∧ VRs K H G ds vs) : ItD K H1 G1 (Itl K.K a) ds ok := by
  intro i H G x r o
  obtain ⟨vs, q, v⟩ := h H G x r o
  refine ⟨fun d e => ?_, fun l => ⟨vs, q, by rw [v.length]; exact l⟩⟩
  obtain ⟨u, e2, q2⟩ := v.get e
  refine ⟨⟨vs, u, q, e2⟩, fun y H' ⟨e3, e4⟩ => ?_⟩
  subst e3
  have e5 := e4 vs q
  rw [e2] at e5; cases e5
  exact ⟨.refl _ _, r, q2⟩
theorem Itt.itD {K : Ml} {H1 : Hp} {G1 : DHp} {a : Addr} {ds : List D} {ok : DHp → Prop} (h : ∀ H G, Ext H1 G1 H G → HR K H G → ok G → ∃ vs, SqT K.K H a vs ∧ VRs K H G ds vs) : ItD K H1 G1 (Itt K.K a) ds ok := by
  intro i H G x r o
  obtain ⟨vs, q, v⟩ := h H G x r o
  refine ⟨fun d e => ?_, fun l => ⟨vs, q, by rw [v.length]; exact l⟩⟩
  obtain ⟨u, e2, q2⟩ := v.get e
  refine ⟨⟨vs, u, q, e2⟩, fun y H' ⟨e3, e4⟩ => ?_⟩
  subst e3
  have e5 := e4 vs q
  rw [e2] at e5; cases e5
  exact ⟨.refl _ _, r, q2⟩
/-- a list or a tuple -/
def diSeq (T : DTE) : DTI := fun η G R => T η G fun d G1 => match d with
  | .nd .tup ds => R ds always G1
  | .nd .lst ds => R ds always G1
  | .nd .scr ds => R ds always G1
  | .ref a => (match G1 a with
    | some (.lst ds) => R ds (fun G => G a = some (.lst ds)) G1
    | _ => False)
  | _ => False
theorem held_lst {K : Ml} {H : Hp} {G : DHp} {k : Kd} {a : Addr} {vs : List V} (h : Held K H G k a vs) (hk : k = .lst ∨ k = .scr) : SqL K.K H a vs := by
  rcases hk with rfl | rfl
  · exact .inl (.inl h.2)
  · rcases h with ⟨o, h⟩ | h
    · exact .inl (.inr ⟨o, h⟩)
    · exact .inr h
theorem pid_seq {l : Expr} {T : DTE} (hl : PED X l T) : PID X tg l (diSeq T) := by
  refine ⟨fun pins s σ H R I ⟨η, G, P, hs, hr, t, k⟩ => ?_⟩
  refine thn (hl.run pins s σ H (fun v H1 => ∃ d G1, (match d with
    | .nd .tup ds => P ds always G1
    | .nd .lst ds => P ds always G1
    | .nd .scr ds => P ds always G1
    | .ref a => (match G1 a with
      | some (.lst ds) => P ds (fun G => G a = some (.lst ds)) G1
      | _ => False)
    | _ => False) ∧ Ext H G H1 G1 ∧ HR X.ml H1 G1 ∧ VR X.ml H1 G1 d v) I ⟨η, G, _, hs, hr, t, fun d G1 v H1 p x r q => ⟨d, G1, p, x, r, q⟩⟩) fun u s1 ⟨v, H1, I1, rv, d, G1, p, x, r, q⟩ => ?_
  have doL : ∀ (a : Addr) (ds : List D) (ok : DHp → Prop), v = .ref a → P ds ok G1 → ok G1 → (∀ H G, Ext H1 G1 H G → HR X.ml H G → ok G → ∃ vs, SqL X.K H a vs ∧ VRs X.ml H G ds vs) →
      wpAny (model X.prog X.w) X.A (pyIter u) (PIE X pins σ tg R) X.xe s1 := by
    intro a ds ok e p1 o1 hh
    subst e
    cases rv
    obtain ⟨vs, hq, _⟩ := hh H1 G1 (.refl _ _) r o1
    have hp : PI X tg (.Constant .none 0 ⟨0, 0, 0, 0⟩) (fun σ H R => R (Itl X.K a) H) → True := fun _ => trivial
    obtain ⟨its, rv2, p2, hz⟩ := I1.list hq
    refine wpAny_pyIter_list p2.isList ?_
    refine ⟨s1.heap.objs.size, [s1.heap.objs.size], _, _, H1, rfl, I1.kept (t' := s1.toks) fun b o e => Heap.get?_push_of_some _ e, turn_list a _, ⟨_, Heap.get?_push_size _ rfl, rfl, rfl⟩, fun b hb => ?_, k ds ok G1 _ H1 p1 x r (Itl.itD hh)⟩
    have e : b = s1.heap.objs.size := by simpa using hb
    subst e
    exact I1.fpOk (Nat.le_refl _) (I1.hok.fresh (Nat.le_refl _))
  cases d with
  | nd kd ds =>
    cases kd with
    | tup =>
      rw [VR] at q
      obtain ⟨a, vs, rfl, hq, vr⟩ := q
      cases rv
      obtain ⟨its, rv2, p2, hz⟩ := I1.tuple hq
      refine wpAny_pyIter_tuple (show s1.heap.IsTuple a its.toArray from p2) ?_
      refine ⟨s1.heap.objs.size, [s1.heap.objs.size], _, _, H1, rfl, I1.kept (t' := s1.toks) fun b o e => Heap.get?_push_of_some _ e, turn_tuple a _, ⟨_, Heap.get?_push_size _ rfl, rfl, rfl⟩, fun b hb => ?_,
        k ds always G1 _ H1 p x r (Itt.itD fun H' G' x' r' _ => ⟨vs, Held.ext (k := .tup) r x' hq, vr.ext r x'⟩)⟩
      have e : b = s1.heap.objs.size := by simpa using hb
      subst e
      exact I1.fpOk (Nat.le_refl _) (I1.hok.fresh (Nat.le_refl _))
    | lst =>
      rw [VR] at q
      obtain ⟨a, vs, e, hq, vr⟩ := q
      exact doL a ds always e p trivial fun H' G' x' r' _ => ⟨vs, held_lst (hq.ext r x') (.inl rfl), vr.ext r x'⟩
    | scr =>
      rw [VR] at q
      obtain ⟨a, vs, e, hq, vr⟩ := q
      exact doL a ds always e p trivial fun H' G' x' r' _ => ⟨vs, held_lst (hq.ext r x') (.inr rfl), vr.ext r x'⟩
    | _ => exact p.elim
  | ref a =>
    rw [VR] at q
    cases e : G1 a with
    | none =>
      have p : (match G1 a with | some (.lst ds) => P ds (fun G => G a = some (.lst ds)) G1 | _ => False) := p
      rw [e] at p; exact p.elim
    | some o =>
      have p : (match G1 a with | some (.lst ds) => P ds (fun G => G a = some (.lst ds)) G1 | _ => False) := p
      rw [e] at p
      cases o with
      | lst ds => exact doL a ds _ q p e fun H' G' x' r' o => let ⟨vs, z, w⟩ := r' a _ o; ⟨vs, .inl (.inl z), w⟩
      | _ => exact p.elim
  | _ => exact p.elim
/-- lo, lo + 1, .. below hi -/
def rangeL (lo hi : Int) : List Int := (List.range (hi - lo).toNat).map fun (k : Nat) => lo + (k : Int)
theorem Itr.itD {K : Ml} {H1 : Hp} {G1 : DHp} {lo hi : Int} : ItD K H1 G1 (Itr lo (hi - lo).toNat) ((rangeL lo hi).map D.int) always := by
  intro i H G x r o
  have hl : ((rangeL lo hi).map D.int).length = (hi - lo).toNat := by simp [rangeL]
  refine ⟨fun d e => ?_, fun l => by rw [hl] at l; exact l⟩
  have hi' : i < (hi - lo).toNat := by rw [← hl]; exact (List.getElem?_eq_some_iff.mp e).1
  refine ⟨hi', fun y H' ⟨e3, e4⟩ => ?_⟩
  subst e3 e4
  refine ⟨.refl _ _, r, ?_⟩
  have : d = D.int (lo + (i : Int)) := by
    simp only [rangeL, List.map_map, List.getElem?_map, List.getElem?_range hi', Option.map_some, Function.comp, Option.some.injEq] at e
    exact e.symm
  subst this
  rw [VR]
def diRange1 (T : DTA) : DTI := fun η G R => T η G fun ds G1 => match ds with
  | [.int j] => (-(2 ^ 62) ≤ j ∧ j < 2 ^ 62) ∧ R ((rangeL 0 j).map D.int) always G1
  | _ => False
theorem pid_range1 {a : Expr} {T : DTA} {p pos : Pos} (hm : X.mg "range" = none) (ha : PAD X [a] T) (hg : Gl X "range" := by rfl) (hs : starEach [a] X.env = [(false, eval a X.env)] := by rfl) : PID X tg (.Call (.Name "range" p) [a] [] pos) (diRange1 T) := by
  refine ⟨fun pins s σ H R I ⟨η, G, P, hs', hr, t, k⟩ => (pi_range1 hg hm ha hs).run pins s σ H R I ⟨η, G, _, hs', hr, t, fun ds G1 vs H1 p x r q => ?_⟩⟩
  match ds, p, q with
  | [.int j], ⟨⟨h1, h2⟩, p⟩, q =>
    obtain ⟨v, w, rfl, q1, q2⟩ := q.uncons
    rw [VR] at q1; subst q1
    rw [q2.nil_of]
    refine ⟨j, rfl, h1, h2, ?_⟩
    have := k _ always G1 (Itr 0 (j - 0).toNat) H1 p x r Itr.itD
    simpa using this
def diRange2 (T : DTA) : DTI := fun η G R => T η G fun ds G1 => match ds with
  | [.int i, .int j] => (-(2 ^ 62) ≤ i ∧ i < 2 ^ 62 ∧ -(2 ^ 62) ≤ j ∧ j < 2 ^ 62) ∧ R ((rangeL i j).map D.int) always G1
  | _ => False
theorem pid_range2 {a b : Expr} {T : DTA} {p pos : Pos} (hm : X.mg "range" = none) (ha : PAD X [a, b] T) (hg : Gl X "range" := by rfl) (hs : starEach [a, b] X.env = [(false, eval a X.env), (false, eval b X.env)] := by rfl) (hs2 : starEach [b] X.env = [(false, eval b X.env)] := by rfl) :
    PID X tg (.Call (.Name "range" p) [a, b] [] pos) (diRange2 T) := by
  refine ⟨fun pins s σ H R I ⟨η, G, P, hs', hr, t, k⟩ => (pi_range2 hg hm ha hs hs2).run pins s σ H R I ⟨η, G, _, hs', hr, t, fun ds G1 vs H1 p x r q => ?_⟩⟩
  match ds, p, q with
  | [.int i, .int j], ⟨h1, p⟩, q =>
    obtain ⟨v, w, rfl, q1, q2⟩ := q.uncons
    rw [VR] at q1; subst q1
    obtain ⟨v, w, rfl, q1, q3⟩ := q2.uncons
    rw [VR] at q1; subst q1
    rw [q3.nil_of]
    exact ⟨i, j, rfl, h1, k _ always G1 (Itr i (j - i).toNat) H1 p x r Itr.itD⟩

/-! ### for, while -/
/-- what is known may be less -/
def Wk (W : DSt → DHp → Prop) : DSt → DHp → Prop := fun η G => ∃ η0, Le η0 η ∧ W η0 G
def dFor (wi : DTI) (g : DTG) (tb : DTS) : DTS := fun F η G => wi η G fun ds ok G1 => ∃ W : Nat → DSt → DHp → Prop, W 0 η G1 ∧ (∀ i η G, W i η G → ok G) ∧
  (∀ i d η G, ds[i]? = some d → W i η G → g d η G fun η2 G2 => tb { F with nx := Wk (W (i + 1)), ct := Wk (W (i + 1)), bk := F.nx } η2 G2) ∧ ∀ η G, W ds.length η G → F.nx η G
theorem psd_for {iter : Expr} {body : List Stmt} {wi : DTI} {is : List Nat} {g : DTG} {tb : DTS} {pos : Pos} (hp : PassesOwn (model X.prog X.w) X.A X.env X.xe) (hc : X.calm = true) (hi : PID X tg iter wi) (hg : PGD X tg is g) (hb : PSsD X body tb)
    (hs : ∀ x, foldedSetIterable iter X.env x = pure x := by intro _; rfl) : PSD X (.For tg iter body [] pos) (dFor wi g tb) :=
  PS.impI (ps_for hp hc hi hg hb hs) fun _ _ σ H E _ ⟨η, G, F, hs, hr, t, k⟩ => ⟨η, G, _, hs, hr, t, fun ds ok G1 J H1 p x r it => by
    obtain ⟨W, w0, wok, step, fin⟩ := p
    refine ⟨fun i m σ' H' => m = ds.length - i ∧ i ≤ ds.length ∧ ∃ η' G', W i η' G' ∧ Ext H1 G1 H' G' ∧ SR X.ml H' G' σ' η' ∧ HR X.ml H' G',
      ⟨ds.length, by simp, Nat.zero_le _, η, G1, w0, .refl _ _, hs.ext hr x, r⟩, ?_⟩
    rintro i m σ1 H2 ⟨rfl, hle, η1, G2, w1, x1, s1, r1⟩
    obtain ⟨a1, a2⟩ := it i H2 G2 x1 r1 (wok _ _ _ w1)
    by_cases hlt : i < ds.length
    · have e : ds[i]? = some ds[i] := by simp [hlt]
      obtain ⟨go, yl⟩ := a1 _ e
      refine .inr ⟨go, fun σ' H' => ∃ η' G', Wk (W (i + 1)) η' G' ∧ Ext H1 G1 H' G' ∧ SR X.ml H' G' σ' η' ∧ HR X.ml H' G', fun σ' H' ⟨η', G', ⟨η0, l, w⟩, x', s', r'⟩ => ⟨_, by omega, rfl, hlt, η0, G', w, x', s'.le l, r'⟩, fun y H3 hy => ?_⟩
      obtain ⟨x3, r3, v3⟩ := yl y H3 hy
      refine ⟨_, η1, G2, _, v3, s1.ext r1 x3, r3, step i _ η1 G2 e w1, fun η4 G4 σ4 H4 p4 x4 s4 r4 _ => ⟨η4, G4, _, s4, r4, p4, ?_⟩⟩
      have x5 : Ext H1 G1 H4 G4 := (x1.trans x3).trans x4
      exact ⟨fun η' G' σ' H' p y s r => ⟨η', G', p, x5.trans y, s, r⟩, fun d G' v H' p y r q => k.rt d G' v H' p ((x.trans x5).trans y) r q, fun η' G' σ' H' p y s r => k.nx η' G' σ' H' p ((x.trans x5).trans y) s r,
        fun η' G' σ' H' p y s r => ⟨η', G', p, x5.trans y, s, r⟩⟩
    · have e : i = ds.length := by omega
      subst e
      exact .inl ⟨a2 (Nat.le_refl _), k.nx η1 G2 σ1 H2 (fin _ _ w1) (x.trans x1) s1 r1⟩⟩
def dWhile (c : DTT) (tb : DTS) : DTS := fun F η G => ∃ W : Nat → DSt → DHp → Prop, (∃ m, W m η G) ∧ ∀ m η G, W m η G →
  c η G fun b G1 => if b = true then tb { F with nx := fun η' G' => ∃ m', m' < m ∧ Wk (W m') η' G', ct := fun η' G' => ∃ m', m' < m ∧ Wk (W m') η' G', bk := F.nx } η G1 else F.nx η G1
theorem psd_while {c : Expr} {body : List Stmt} {tc : DTT} {tb : DTS} {pos : Pos} (hp : PassesOwn (model X.prog X.w) X.A X.env X.xe) (hc : PTD X c tc) (hb : PSsD X body tb) : PSD X (.While c body [] pos) (dWhile tc tb) :=
  PS.impI (ps_while hp hc hb) fun _ _ σ H E _ ⟨η, G, F, hs, hr, t, k⟩ => by
    obtain ⟨W, ⟨m0, w0⟩, step⟩ := t
    refine ⟨fun m σ' H' => ∃ η' G', W m η' G' ∧ Ext H G H' G' ∧ SR X.ml H' G' σ' η' ∧ HR X.ml H' G', ⟨m0, η, G, w0, .refl _ _, hs, hr⟩, ?_⟩
    rintro m σ1 H1 ⟨η1, G1, w1, x1, s1, r1⟩
    refine ⟨η1, G1, _, s1, r1, step m η1 G1 w1, fun b G2 H2 p2 x2 r2 => ?_⟩
    cases b with
    | true =>
      rw [if_pos rfl] at p2 ⊢
      refine ⟨fun σ' H' => ∃ m', m' < m ∧ ∃ η' G', Wk (W m') η' G' ∧ Ext H G H' G' ∧ SR X.ml H' G' σ' η' ∧ HR X.ml H' G', fun σ' H' ⟨m', hm, η', G', ⟨η0, l, w⟩, x', s', r'⟩ => ⟨m', hm, η0, G', w, x', s'.le l, r'⟩, ?_⟩
      refine ⟨η1, G2, _, s1.ext r1 x2, r2, p2, ?_⟩
      have x3 := x1.trans x2
      exact ⟨fun η' G' σ' H' ⟨m', hm, p⟩ y s r => ⟨m', hm, η', G', p, x3.trans y, s, r⟩, fun d G' v H' p y r q => k.rt d G' v H' p (x3.trans y) r q, fun η' G' σ' H' p y s r => k.nx η' G' σ' H' p (x3.trans y) s r,
        fun η' G' σ' H' ⟨m', hm, p⟩ y s r => ⟨m', hm, η', G', p, x3.trans y, s, r⟩⟩
    | false =>
      rw [if_neg Bool.false_ne_true] at p2 ⊢
      exact k.nx η1 G2 σ1 H2 p2 (x1.trans x2) (s1.ext r1 x2) r2
end

/-! ### list comprehensions -/
def wipeD (η : DSt) : List Nat → DSt
  | [] => η
  | v :: vs => (wipeD η vs).set v none
section
variable {X : Cx} {tg : Expr}
theorem SR.wipe {K : Ml} {H : Hp} {G : DHp} {σ : L2.St} {η : DSt} (h : SR K H G σ η) : ∀ vs : List Nat, SR K H G (wipe σ vs) (wipeD η vs)
  | [] => h
  | v :: vs => SR.none (SR.wipe h vs) v Option.none
/-- a clause's tests -/
abbrev PTsD (X : Cx) (ifs : List Expr) (T : DTT) : Prop := PTs X ifs (liftT X.ml T)
def dYes : DTT := fun _ G Q => Q true G
theorem ptsd_nil : PTsD X [] dYes := ⟨fun pins s σ H Q I ⟨η, G, P, hs, hr, t, k⟩ => pts_nil.run pins s σ H Q I (k true G H t (.refl _ _) hr)⟩
theorem ptsd_one {c : Expr} {T : DTT} (h : PTD X c T) : PTsD X [c] T := pts_one h
/-- [elt for tg in iter if ..] -/
def dLc (wi : DTI) (g : DTG) (tt : DTT) (te : DTE) (own : List Nat) : DTE := fun η G Q => wi η G fun ds ok G1 => ∀ p, G1 p = none → ∃ W : Nat → List D → DHp → Prop, W 0 [] (up G1 p (.lst [])) ∧ (∀ i acc G, W i acc G → ok G ∧ G p = some (.lst acc)) ∧
  (∀ i d acc G, ds[i]? = some d → W i acc G → g d (wipeD η own) G fun η2 G2 => tt η2 G2 fun b G3 => if b = true then te η2 G3 fun y G4 => acc.length < sizeLine ∧ G4 p = some (.lst acc) ∧ W (i + 1) (acc ++ [y]) (up G4 p (.lst (acc ++ [y]))) else W (i + 1) acc G3) ∧
  ∀ acc G, W ds.length acc G → Q (.ref p) G
theorem wipe_sub {a b : L2.St} {is vs : List Nat} (h : wipe b is = wipe a is) (hl : ∀ i ∈ is, i ∈ vs) (ha : a.length = b.length) : wipe b vs = wipe a vs := by
  have get : ∀ (σ : L2.St) (vs : List Nat) (j : Nat), (wipe σ vs)[j]? = if j ∈ vs then (if j < σ.length then some none else none) else σ[j]? := by
    intro σ vs j
    induction vs with
    | nil => simp [wipe]
    | cons v vs ih =>
      unfold wipe
      by_cases hj : v = j
      · subst hj
        by_cases hlt : v < σ.length
        · rw [List.getElem?_set_self (by rw [wipe_length]; exact hlt)]
          simp [hlt]
        · rw [List.getElem?_eq_none (by rw [List.length_set, wipe_length]; omega)]
          simp [hlt]
      · rw [List.getElem?_set_ne hj, ih]
        have : j ≠ v := Ne.symm hj
        simp [this]
  refine List.ext_getElem? fun j => ?_
  rw [get, get]
  by_cases hj : j ∈ vs
  · simp [hj, ha]
  · have hi : j ∉ is := fun q => hj (hl j q)
    have e := congrArg (fun l => l[j]?) h
    simp only [get, hi, if_false] at e
    simp [hj, e]
theorem wipe_idem (σ : L2.St) (own : List Nat) : wipe (wipe σ own) own = wipe σ own := by
  refine List.ext_getElem? fun j => ?_
  by_cases hj : j ∈ own
  · have h1 : ∀ (vs : List Nat) (s : L2.St), j ∈ vs → (wipe s vs)[j]? = if j < s.length then some none else none := by
      intro vs s hm
      induction vs with
      | nil => cases hm
      | cons v vs ih =>
        unfold wipe
        by_cases e : v = j
        · subst e
          by_cases hlt : v < s.length
          · rw [List.getElem?_set_self (by rw [wipe_length]; exact hlt), if_pos hlt]
          · rw [List.getElem?_eq_none (by rw [List.length_set, wipe_length]; omega), if_neg hlt]
        · rw [List.getElem?_set_ne e, ih ((List.mem_cons.mp hm).resolve_left fun q => e q.symm)]
    rw [h1 own _ hj, h1 own _ hj, wipe_length]
  · rw [wipe_out hj]
theorem lc_lift {K : Ml} {wi : DTI} {g : DTG} {tt : DTT} {te : DTE} {own is : List Nat} {σ : L2.St} {H : Hp} {Q : VK} (hsub : ∀ i ∈ is, i ∈ own) (h : liftE K (dLc wi g tt te own) σ H Q) :
    tLc (liftI K wi) (liftG K is g) (liftT K tt) (liftE K te) own σ H Q := by
  obtain ⟨η, G, P, hs, hr, t, k⟩ := h
  refine ⟨η, G, _, hs, hr, t, fun ds ok G1 J H1 pp x r it => ?_⟩
  intro D hD
  have gD : G1 D = none := r.free hD
  obtain ⟨W, w0, wok, step, fin⟩ := pp D gD
  have xD : Ext H1 G1 (upd H1 D (.lst [])) (up G1 D (.lst [])) := .new hD
  have rD : HR K (upd H1 D (.lst [])) (up G1 D (.lst [])) := r.new hD ⟨[], upd_same, .nil⟩
  refine ⟨fun i m H' => m = ds.length - i ∧ i ≤ ds.length ∧ ∃ acc G', W i acc G' ∧ Ext H1 G1 H' G' ∧ HR K H' G',
    ⟨ds.length, by simp, Nat.zero_le _, [], _, w0, xD, rD⟩, ?_⟩
  rintro i m H2 ⟨rfl, hle, acc, G2, w1, x1, r1⟩
  obtain ⟨a1, a2⟩ := it i H2 G2 x1 r1 (wok _ _ _ w1).1
  by_cases hlt : i < ds.length
  · have e : ds[i]? = some ds[i] := by simp [hlt]
    obtain ⟨go, yl⟩ := a1 _ e
    refine .inr ⟨go, fun H' => ∃ acc G', W (i + 1) acc G' ∧ Ext H1 G1 H' G' ∧ HR K H' G', fun H' ⟨acc', G', z⟩ => ⟨_, by omega, rfl, hlt, acc', G', z⟩, fun y H3 hy => ?_⟩
    obtain ⟨x3, r3, v3⟩ := yl y H3 hy
    have s3 : SR K H3 G2 (wipe σ own) (wipeD η own) := ((hs.ext hr x).ext r (x1.trans x3)).wipe own
    refine ⟨_, wipeD η own, G2, _, v3, s3, r3, step i _ acc G2 e w1, fun η4 G4 σ4 H4 p4 x4 s4 r4 wp => ⟨?_, η4, G4, _, s4, r4, p4, fun b G5 H5 p5 x5 r5 => ?_⟩⟩
    · have hlen : (wipe σ own).length = σ4.length := by
        have := congrArg List.length wp
        rw [wipe_length, wipe_length] at this
        exact this.symm
      rw [wipe_sub (vs := own) wp hsub hlen]
      exact wipe_idem _ _
    · by_cases hb : b = true
      · subst hb
        rw [if_pos rfl] at p5 ⊢
        refine ⟨η4, G5, _, s4.ext r4 x5, r5, p5, fun dy G6 vy H6 ⟨hz, hp6, w6⟩ x6 r6 q6 => ?_⟩
        obtain ⟨vs, hv6, ha⟩ := r6 D _ hp6
        have xx : Ext H2 G2 H6 G6 := ((x3.trans x4).trans x5).trans x6
        have xw : Ext H6 G6 (upd H6 D (.lst (vs ++ [vy]))) (up G6 D (.lst (acc ++ [dy]))) := .write hp6
        refine ⟨vs, hv6, by rw [ha.length]; exact hz, acc ++ [dy], _, w6, (x1.trans xx).trans xw, r6.write hp6 ⟨_, upd_same, ?_⟩⟩
        exact (ha.ext r6 xw).append (.cons (q6.ext r6 xw) .nil)
      · rw [if_neg hb] at p5 ⊢
        exact ⟨acc, G5, p5, x1.trans ((x3.trans x4).trans x5), r5⟩
  · have e : i = ds.length := by omega
    subst e
    exact .inl ⟨a2 (Nat.le_refl _), k (.ref D) G2 (.ref D) H2 (fin _ _ w1) (x.trans x1) r1 (by rw [VR])⟩
abbrev CPG (X : Cx) (scope : Scope) (tg : Expr) (is : List Nat) (g : DTG) : Prop := ∀ (s : Shared) (H : Hp) (C : Addr) (cl : List (Str × Addr)) (fp : List Addr), PGD (X.blk s H scope (compEnvC scope cl C X.env) fp) tg is g
theorem ped_lc {elt tg iter : Expr} {ifs : List Expr} {scope : Scope} {own : List (Str × Nat)} {is : List Nat} {pos : Pos} {wi : DTI} {g : DTG} {tt : DTT} {te : DTE} (hc : X.calm = true) (hN : X.N.Nodup) (hi : PID X tg iter wi) (ok : BlkOk X.N X.env.scope scope own)
    (hg : ∀ (s : Shared) (H : Hp) (C : Addr) (cl : List (Str × Addr)) (fp : List Addr), PGD (X.blk s H scope (compEnvC scope cl C X.env) fp) tg is g) (ht : ∀ (s : Shared) (H : Hp) (C : Addr) (cl : List (Str × Addr)) (fp : List Addr), PTsD (X.blk s H scope (compEnvC scope cl C X.env) fp) ifs tt)
    (he : ∀ (s : Shared) (H : Hp) (C : Addr) (cl : List (Str × Addr)) (fp : List Addr), PED (X.blk s H scope (compEnvC scope cl C X.env) fp) elt te) (hsub : ∀ i ∈ is, i ∈ own.map (·.2) := by decide) (hs : ∀ x, foldedSetIterable iter X.env x = pure x := by intro _; rfl) :
    PED X (.ListComp elt [⟨tg, iter, ifs, 0⟩] scope pos) (dLc wi g tt te (own.map (·.2))) :=
  PE.impI (pe_lc hc hN hi ok hg ht he hs) fun _ _ _ _ _ _ h => lc_lift hsub h
/-- name = [..] on one line -/
theorem psd_setLc {i : Nat} {y : Str} {py : Pos} {elt tg iter : Expr} {ifs : List Expr} {scope : Scope} {own : List (Str × Nat)} {is : List Nat} {pos spos : Pos} {wi : DTI} {g : DTG} {tt : DTT} {te : DTE} (hc : X.calm = true) (hN : X.N.Nodup) (hy : X.N[i]? = some y) (hyl : X.env.scope.names.lookup y = some .local)
    (hsw : swapsWith (.ListComp elt [⟨tg, iter, ifs, 0⟩] scope pos) (some (.Name y py)) spos.line X.env = pure true) (hi : PID X tg iter wi) (ok : BlkOk X.N X.env.scope scope own)
    (hg : ∀ (s : Shared) (H : Hp) (C : Addr) (cl : List (Str × Addr)) (fp : List Addr), PGD (X.blk s H scope (compEnvC scope cl C X.env) fp) tg is g) (ht : ∀ (s : Shared) (H : Hp) (C : Addr) (cl : List (Str × Addr)) (fp : List Addr), PTsD (X.blk s H scope (compEnvC scope cl C X.env) fp) ifs tt)
    (he : ∀ (s : Shared) (H : Hp) (C : Addr) (cl : List (Str × Addr)) (fp : List Addr), PED (X.blk s H scope (compEnvC scope cl C X.env) fp) elt te) (hsub : ∀ i ∈ is, i ∈ own.map (·.2) := by decide) (hs : ∀ x, foldedSetIterable iter X.env x = pure x := by intro _; rfl) :
    PSD X (.Assign [.Name y py] (.ListComp elt [⟨tg, iter, ifs, 0⟩] scope pos) spos) (dAsg (dLc wi g tt te (own.map (·.2))) (gdName i)) :=
  PS.impI (ps_setLc hc hN hy hyl hsw hi ok hg ht he hs) fun _ _ σ H E _ ⟨η, G, F, hs, hr, t, k⟩ =>
    show tLc _ _ _ _ _ σ H _ from lc_lift hsub ⟨η, G, _, hs, hr, t, fun d G1 v H1 p1 x1 r1 q1 => k.nx _ G1 _ H1 p1 x1 ((hs.ext hr x1).set i q1) r1⟩
end
end DL
namespace DL
open PySem PySem.Spec PyProof.Rows L2

/-! ### plain data -/
mutual
def py : D → PyData
  | .non => .none
  | .bl b => .bool b
  | .int i => .int i
  | .str x => .str x
  | .ty _ => .none
  | .ref _ => .none
  | .nd .tup ds => .tuple (pys ds)
  | .nd .lst ds => .list (pys ds)
  | .nd .scr ds => .list (pys ds)
  | .nd _ _ => .none
def pys : List D → List PyData
  | [] => []
  | d :: ds => py d :: pys ds
end
mutual
def plainD : D → Bool
  | .non => true
  | .bl _ => true
  | .int _ => true
  | .str _ => true
  | .nd .tup ds => plainDs ds
  | .nd .lst ds => plainDs ds
  | .nd .scr ds => plainDs ds
  | _ => false
def plainDs : List D → Bool
  | [] => true
  | d :: ds => plainD d && plainDs ds
end
theorem pys_map : ∀ ds : List D, pys ds = ds.map py
  | [] => rfl
  | d :: ds => by rw [pys, pys_map ds]; rfl
theorem plainDs_all : ∀ ds : List D, plainDs ds = ds.all plainD
  | [] => rfl
  | d :: ds => by rw [plainDs, plainDs_all ds]; rfl
section
variable {K : Ml} {H : Hp} {G : DHp}
theorem held_tup {a : Addr} {vs : List V} (h : Held K H G .tup a vs) : SqT K.K H a vs := h
mutual
theorem VR.dp : ∀ {d : D} {v : V}, VR K H G d v → plainD d = true → Dp K.K H v (py d)
  | .non, _, h, _ => by rw [VR] at h; subst h; exact .non
  | .bl _, _, h, _ => by rw [VR] at h; subst h; exact .bl _
  | .int _, _, h, _ => by rw [VR] at h; subst h; exact .int _
  | .str _, _, h, _ => by rw [VR] at h; subst h; exact .str _
  | .ty _, _, _, p => by simp [plainD] at p
  | .ref _, _, _, p => by simp [plainD] at p
  | .nd .tup ds, _, h, p => by
    rw [VR] at h
    obtain ⟨a, vs, rfl, q, r⟩ := h
    rw [py]
    exact .tup q (VRs.dp r (by rw [plainD] at p; exact p))
  | .nd .lst ds, _, h, p => by
    rw [VR] at h
    obtain ⟨a, vs, rfl, q, r⟩ := h
    rw [py]
    exact .lst (held_lst q (.inl rfl)) (VRs.dp r (by rw [plainD] at p; exact p))
  | .nd .scr ds, _, h, p => by
    rw [VR] at h
    obtain ⟨a, vs, rfl, q, r⟩ := h
    rw [py]
    exact .lst (held_lst q (.inr rfl)) (VRs.dp r (by rw [plainD] at p; exact p))
  | .nd (.ins _ _) ds, _, _, p => by simp [plainD] at p
  | .nd (.dK _) ds, _, _, p => by simp [plainD] at p
  | .nd (.dN _) ds, _, _, p => by simp [plainD] at p
theorem VRs.dp : ∀ {ds : List D} {vs : List V}, VRs K H G ds vs → plainDs ds = true → DpAll K.K H vs (pys ds)
  | [], _, h, _ => by rw [h.nil_of, pys]; exact .nil
  | d :: ds, _, h, p => by
    obtain ⟨v, r, rfl, q, t⟩ := h.uncons
    rw [plainDs, Bool.and_eq_true] at p
    rw [pys]
    exact .cons (VR.dp q p.1) (VRs.dp t p.2)
end
/-- what is read at a value: a tracked list by its items -/
def der (d : D) (G : DHp) : D := match d with
  | .ref a => (match G a with
    | some (.lst ds) => .nd .lst ds
    | _ => .ref a)
  | d => d
theorem der_ref {a : Addr} {G : DHp} : der (.ref a) G = (match G a with | some (.lst ds) => .nd .lst ds | _ => .ref a) := rfl
theorem der_lt {a : Addr} {G : DHp} {ds : List D} (h : G a = some (.lst ds)) : der (.ref a) G = .nd .lst ds := by rw [der_ref, h]
theorem der_dp (hr : HR K H G) {d : D} {v : V} (h : VR K H G d v) (p : plainD (der d G) = true) : Dp K.K H v (py (der d G)) := by
  cases d with
  | ref a =>
    rw [VR] at h
    subst h
    rw [der_ref] at p ⊢
    cases e : G a with
    | none => rw [e] at p; simp [plainD] at p
    | some o =>
      cases o with
      | lst ds =>
        rw [e] at p
        simp only at p ⊢
        obtain ⟨vs, q, r⟩ := hr a _ e
        rw [py]
        exact .lst (.inl (.inl q)) (r.dp (by rw [plainD] at p; exact p))
      | _ => rw [e] at p; simp [plainD] at p
  | _ => exact h.dp p
/-- a list, whatever way it is held -/
theorem der_lst (hr : HR K H G) {d : D} {v : V} {ds : List D} (h : VR K H G d v) (e : der d G = .nd .lst ds) : ∃ a vs, v = .ref a ∧ H a = some (.lst vs) ∧ VRs K H G ds vs := by
  cases d with
  | ref a =>
    rw [VR] at h
    subst h
    rw [der_ref] at e
    cases g : G a with
    | none => rw [g] at e; cases e
    | some o =>
      cases o with
      | lst ds' =>
        rw [g] at e
        simp only [D.nd.injEq, true_and] at e
        subst e
        obtain ⟨vs, q, r⟩ := hr a _ g
        exact ⟨a, vs, rfl, q, r⟩
      | _ => rw [g] at e; cases e
  | nd k ds' =>
    have e : D.nd k ds' = .nd .lst ds := e
    cases e
    rw [VR] at h
    obtain ⟨a, vs, rfl, q, r⟩ := h
    exact ⟨a, vs, rfl, q.2, r⟩
  | _ => cases e
end

section
variable {X : Cx}
/-- an operator by cases -/
theorem opd_of {f : Value → Value → Sem Value} {r : DR2} (h : ∀ pins s σ H G x y v u dx dy P, Inv X pins σ H s → RelV x v → RelV y u → HR X.ml H G → VR X.ml H G dx x → VR X.ml H G dy y → r dx dy G P →
    wpAny (model X.prog X.w) X.A (f v u) (fun w s' => ∃ z d H' G', Inv X pins σ H' s' ∧ RelV z w ∧ P d G' ∧ Ext H G H' G' ∧ HR X.ml H' G' ∧ VR X.ml H' G' d z) X.xe s) : OpD X f r := by
  intro pins s σ H x y v u Q I rx ry ⟨dx, dy, G, P, hr, q1, q2, t, k⟩
  exact thn (h pins s σ H G x y v u dx dy P I rx ry hr q1 q2 t) fun w s' ⟨z, d, H', G', I', rz, p, x', r', q'⟩ => ⟨z, H', I', rz, k d G' z H' p x' r' q'⟩
/-- the end where nothing is made -/
theorem opd_fin {pins : List (Addr × Obj)} {σ : L2.St} {H : Hp} {G : DHp} {s : Shared} {P : D → DHp → Prop} {d : D} {z : V} {w : Value} (I : Inv X pins σ H s) (rz : RelV z w) (hr : HR X.ml H G) (q : VR X.ml H G d z) (p : P d G) :
    ∃ z d H' G', Inv X pins σ H' s ∧ RelV z w ∧ P d G' ∧ Ext H G H' G' ∧ HR X.ml H' G' ∧ VR X.ml H' G' d z := ⟨z, d, H, G, I, rz, p, .refl _ _, hr, q⟩
def i2 (C : Int → Int → Prop) (g : Int → Int → D) : DR2 := fun x y G Q => match x, y with
  | .int i, .int j => C i j ∧ Q (g i j) G
  | _, _ => False
theorem opd_i2 {f : Value → Value → Sem Value} {C : Int → Int → Prop} {g : Int → Int → D} {gv : Int → Int → V} (hg : ∀ i j H G, VR X.ml H G (g i j) (gv i j)) (h : OpR X f (rI C gv)) : OpD X f (i2 C g) := opd_of fun pins s σ H G x y v u dx dy P I rx ry hr q1 q2 t => by
  unfold i2 at t
  split at t
  · rename_i i j
    rw [VR] at q1 q2
    subst q1 q2
    refine thn (h pins s σ H _ _ v u (fun z H' => z = gv i j ∧ H' = H) I rx ry ⟨i, j, rfl, rfl, t.1, rfl, rfl⟩) fun w s' ⟨z, H', I', rz, e1, e2⟩ => ?_
    subst e1 e2
    exact opd_fin I' rz hr (hg i j H' G) t.2
  · exact t.elim
theorem rI0_rI {f : Value → Value → Sem Value} {g : Int → Int → V} (h : OpR X f (rI0 g)) : OpR X f (rI (fun _ _ => True) g) := fun pins s σ H x y v u Q I rx ry ⟨i, j, e1, e2, _, q⟩ => h pins s σ H x y v u Q I rx ry ⟨i, j, e1, e2, q⟩
theorem od_sub : OpD X (binaryOp .Sub) (i2 (fun _ _ => True) fun i j => .int (i - j)) := opd_i2 (fun _ _ _ _ => by rw [VR]) (rI0_rI op_sub)
theorem od_mul : OpD X (binaryOp .Mult) (i2 CMul fun i j => .int (i * j)) := opd_i2 (fun _ _ _ _ => by rw [VR]) op_mul
/-- a divisor below 2 ^ 30 -/
theorem od_fdiv : OpD X (binaryOp .FloorDiv) (i2 CDiv fun i j => .int (i / j)) := opd_i2 (fun _ _ _ _ => by rw [VR]) op_fdiv
theorem od_mod : OpD X (binaryOp .Mod) (i2 (fun _ j => 0 < j) fun i j => .int (i % j)) := opd_i2 (fun _ _ _ _ => by rw [VR]) op_mod
theorem od_pow : OpD X (binaryOp .Pow) (i2 CPow fun i j => .int (i ^ j.toNat)) := opd_i2 (fun _ _ _ _ => by rw [VR]) op_pow
/-- + of ints, texts, tuples, lists (a new list that is changed no more) -/
def dAdd : DR2 := fun x y G Q => match der x G, der y G with
  | .int i, .int j => Q (.int (i + j)) G
  | .str a, .str b => a.length + b.length ≤ sizeLine ∧ Q (.str (a ++ b)) G
  | .nd .tup xs, .nd .tup ys => xs.length + ys.length ≤ sizeLine ∧ Q (.nd .tup (xs ++ ys)) G
  | .nd .lst xs, .nd .lst ys => xs.length + ys.length ≤ sizeLine ∧ Q (.nd .lst (xs ++ ys)) G
  | _, _ => False
theorem der_of {G : DHp} {x d : D} (e : der x G = d) (hl : ∀ ds, d ≠ .nd .lst ds) : x = d := by
  cases x with
  | ref a =>
    rw [der_ref] at e
    cases g : G a with
    | none => rw [g] at e; exact e
    | some o =>
      cases o with
      | lst ds => rw [g] at e; exact absurd e.symm (hl ds)
      | _ => rw [g] at e; exact e
  | _ => exact e
theorem od_add : OpD X (binaryOp .Add) dAdd := opd_of fun pins s σ H G x y v u dx dy P I rx ry hr q1 q2 t => by
  unfold dAdd at t
  split at t
  · rename_i i j e1 e2
    have e1 := der_of e1 (fun _ h => nomatch h)
    have e2 := der_of e2 (fun _ h => nomatch h)
    subst e1 e2
    rw [VR] at q1 q2
    subst q1 q2
    obtain ⟨t1, rfl⟩ := rx
    obtain ⟨t2, rfl⟩ := ry
    exact add_int (opd_fin (z := .int (i + j)) (I.tok _) ⟨_, rfl⟩ hr (by rw [VR]) t)
  · rename_i i j e1 e2
    have e1 := der_of e1 (fun _ h => nomatch h)
    have e2 := der_of e2 (fun _ h => nomatch h)
    subst e1 e2
    rw [VR] at q1 q2
    subst q1 q2
    exact thn (op_add_str pins s σ H _ _ v u (fun z H' => z = .str (i ++ j) ∧ H' = H) I rx ry ⟨i, j, rfl, rfl, t.1, rfl, rfl⟩) fun w s' ⟨z, H', I', rz, e1, e2⟩ => by
      subst e1 e2
      exact opd_fin I' rz hr (by rw [VR]) t.2
  · rename_i xs ys e1 e2
    have e1 := der_of e1 (fun _ h => nomatch h)
    have e2 := der_of e2 (fun _ h => nomatch h)
    subst e1 e2
    rw [VR] at q1 q2
    obtain ⟨a, vs, rfl, h1, r1⟩ := q1
    obtain ⟨b, ws, rfl, h2, r2⟩ := q2
    refine thn (op_catA pins s σ H _ _ v u (fun z H' => Ext H G H' G ∧ HR X.ml H' G ∧ VR X.ml H' G (.nd .tup (xs ++ ys)) z) I rx ry ⟨a, b, vs, ws, rfl, rfl, h1, h2, by rw [r1.length, r2.length]; exact t.1, fun e => ?_, fun _ e => ?_, fun _ _ p hp => ?_⟩) fun w s' ⟨z, H', I', rz, x', r', q'⟩ => ⟨z, _, H', G, I', rz, t.2, x', r', q'⟩
    · have : xs = [] := by have := r1.length; rw [e] at this; exact List.length_eq_zero_iff.mp this.symm
      subst this
      refine ⟨.refl _ _, hr, ?_⟩
      rw [VR]
      exact ⟨b, ws, rfl, h2, r2⟩
    · have : ys = [] := by have := r2.length; rw [e] at this; exact List.length_eq_zero_iff.mp this.symm
      subst this
      refine ⟨.refl _ _, hr, ?_⟩
      rw [VR, List.append_nil]
      exact ⟨a, vs, rfl, h1, r1⟩
    · have x2 : Ext H G (upd H p (.tup (vs ++ ws))) G := .laid hp
      refine ⟨x2, hr.laid hp, ?_⟩
      rw [VR]
      exact ⟨p, _, rfl, .inl (.inl upd_same), (r1.append r2).ext hr x2⟩
  · rename_i xs ys e1 e2
    obtain ⟨a, vs, rfl, h1, r1⟩ := der_lst hr q1 e1
    obtain ⟨b, ws, rfl, h2, r2⟩ := der_lst hr q2 e2
    refine thn (op_cat pins s σ H _ _ v u (fun z H' => Ext H G H' G ∧ HR X.ml H' G ∧ VR X.ml H' G (.nd .lst (xs ++ ys)) z) I rx ry ⟨a, b, vs, ws, rfl, rfl, h1, h2, by rw [r1.length, r2.length]; exact t.1, fun p hp => ?_⟩) fun w s' ⟨z, H', I', rz, x', r', q'⟩ => ⟨z, _, H', G, I', rz, t.2, x', r', q'⟩
    have x2 : Ext H G (upd H p (.lst (vs ++ ws))) G := .laid hp
    refine ⟨x2, hr.laid hp, ?_⟩
    rw [VR]
    exact ⟨p, _, rfl, ⟨hr.free hp, upd_same⟩, (r1.append r2).ext hr x2⟩
  · exact t.elim
/-! ### comparisons -/
/-- equality of plain data -/
def dEq : DR2 := fun x y G Q => (plainD (der x G) = true ∧ plainD (der y G) = true ∧ SeqAt.shaped (py (der x G)) = true ∧ SeqAt.shaped (py (der y G)) = true) ∧ Q (.bl (PyData.eqv (py (der x G)) (py (der y G)))) G
def dNe : DR2 := fun x y G Q => (plainD (der x G) = true ∧ plainD (der y G) = true ∧ SeqAt.shaped (py (der x G)) = true ∧ SeqAt.shaped (py (der y G)) = true) ∧ Q (.bl (!PyData.eqv (py (der x G)) (py (der y G)))) G
theorem od_eq (hu : X.A.units + 64 < cLine) : OpD X (compareOp .Eq) dEq := opd_of fun pins s σ H G x y v u dx dy P I rx ry hr q1 q2 ⟨⟨p1, p2, s1, s2⟩, t⟩ =>
  thn (op_eqD hu pins s σ H _ _ v u (fun z H' => z = .bl (PyData.eqv (py (der dx G)) (py (der dy G))) ∧ H' = H) I rx ry ⟨_, _, der_dp hr q1 p1, der_dp hr q2 p2, s1, s2, rfl, rfl⟩) fun w s' ⟨z, H', I', rz, e1, e2⟩ => by
    subst e1 e2
    exact opd_fin I' rz hr (by rw [VR]) t
theorem od_ne (hu : X.A.units + 64 < cLine) : OpD X (compareOp .NotEq) dNe := opd_of fun pins s σ H G x y v u dx dy P I rx ry hr q1 q2 ⟨⟨p1, p2, s1, s2⟩, t⟩ =>
  thn (op_neD hu pins s σ H _ _ v u (fun z H' => z = .bl (!PyData.eqv (py (der dx G)) (py (der dy G))) ∧ H' = H) I rx ry ⟨_, _, der_dp hr q1 p1, der_dp hr q2 p2, s1, s2, rfl, rfl⟩) fun w s' ⟨z, H', I', rz, e1, e2⟩ => by
    subst e1 e2
    exact opd_fin I' rz hr (by rw [VR]) t
/-- an order of plain data -/
def dOrd (g : PyData → PyData → Bool) : DR2 := fun x y G Q => (plainD x = true ∧ plainD y = true ∧ PySem.W.alike (py x) (py y) = true ∧ py x ≠ .none ∧ (py x).depth ≤ 64) ∧ Q (.bl (g (py x) (py y))) G
abbrev dLt : DR2 := dOrd PySem.W.dataLt
abbrev dLe : DR2 := dOrd fun a b => !PySem.W.dataLt b a
abbrev dGt : DR2 := dOrd fun a b => PySem.W.dataLt b a
abbrev dGe : DR2 := dOrd fun a b => !PySem.W.dataLt a b
theorem od_ord {f : Value → Value → Sem Value} {g : PyData → PyData → Bool} (hu : X.A.units + 64 < cLine)
    (h : ∀ {s : Shared} {a b : Value} {da db : PyData} {as bs : List Addr} {Q : Value → Shared → Prop}, Reads s.heap a da as → Reads s.heap b db bs → PySem.W.alike da db = true → da ≠ .none → X.A.units + min da.depth db.depth < cLine → Q (.bool (g da db)) s → wpAny (model X.prog X.w) X.A (f a b) Q X.xe s) : OpD X f (dOrd g) :=
  opd_of fun pins s σ H G x y v u dx dy P I rx ry hr q1 q2 ⟨⟨p1, p2, al, nn, dp⟩, t⟩ => by
    obtain ⟨as, r1⟩ := Dp.reads I _ _ v (q1.dp p1) rx
    obtain ⟨bs, r2⟩ := Dp.reads I _ _ u (q2.dp p2) ry
    exact h r1 r2 al nn (by have := Nat.min_le_left (py dx).depth (py dy).depth; omega) (opd_fin (z := .bl _) I rfl hr (by rw [VR]) t)
theorem od_lt (hu : X.A.units + 64 < cLine) : OpD X (compareOp .Lt) dLt := od_ord hu fun r1 r2 h n u q => PySem.W.lt_data r1 r2 h n u q
theorem od_le (hu : X.A.units + 64 < cLine) : OpD X (compareOp .LtE) dLe := od_ord hu fun r1 r2 h n u q => PySem.W.le_data r1 r2 h n u q
theorem od_gt (hu : X.A.units + 64 < cLine) : OpD X (compareOp .Gt) dGt := od_ord hu fun r1 r2 h n u q => PySem.W.gt_data r1 r2 h n u q
theorem od_ge (hu : X.A.units + 64 < cLine) : OpD X (compareOp .GtE) dGe := od_ord hu fun r1 r2 h n u q => PySem.W.ge_data r1 r2 h n u q
/-- is None -/
def isNon : D → Bool
  | .non => true
  | _ => false
def dIsN (b : Bool) : DR2 := fun x y G Q => match y with
  | .non => Q (.bl (b != isNon x)) G
  | _ => False
theorem non_dec {K : Ml} {H : Hp} {G : DHp} {d : D} {v : V} (h : VR K H G d v) : isNon d = decide (v = .non) := by
  cases d with
  | nd k ds => rw [VR] at h; obtain ⟨a, vs, rfl, _⟩ := h; rfl
  | _ => rw [VR] at h; subst h; rfl
theorem od_is : OpD X (compareOp .Is) (dIsN false) := opd_of fun pins s σ H G x y v u dx dy P I rx ry hr q1 q2 t => by
  cases dy with
  | non =>
    rw [VR] at q2; subst q2
    refine thn (op_isN pins s σ H _ _ v u (fun z H' => z = .bl (decide (x = .non)) ∧ H' = H) I rx ry ⟨rfl, rfl, rfl⟩) fun w s' ⟨z, H', I', rz, e1, e2⟩ => ?_
    subst e1 e2
    refine opd_fin I' rz hr (d := .bl (decide (x = .non))) (by rw [VR]) ?_
    rw [← non_dec q1]
    have t : P (.bl (false != isNon dx)) G := t
    simpa using t
  | _ => exact t.elim
theorem od_isnot : OpD X (compareOp .IsNot) (dIsN true) := opd_of fun pins s σ H G x y v u dx dy P I rx ry hr q1 q2 t => by
  cases dy with
  | non =>
    rw [VR] at q2; subst q2
    refine thn (op_notN pins s σ H _ _ v u (fun z H' => z = .bl (!decide (x = .non)) ∧ H' = H) I rx ry ⟨rfl, rfl, rfl⟩) fun w s' ⟨z, H', I', rz, e1, e2⟩ => ?_
    subst e1 e2
    refine opd_fin I' rz hr (d := .bl (!decide (x = .non))) (by rw [VR]) ?_
    rw [← non_dec q1]
    have t : P (.bl (true != isNon dx)) G := t
    simpa using t
  | _ => exact t.elim
end
end DL
namespace DL
open PySem PySem.Spec PyProof.Rows L2

/-! ### dicts as they are read -/
def dicN (y : D) (G : DHp) : Option (List (NestedKey × D)) := match y with
  | .nd (.dN ks) vs => some (ks.zip vs)
  | .ref a => (match G a with
    | some (.dN kvs) => some kvs
    | _ => none)
  | _ => none
def dicK (y : D) (G : DHp) : Option (List (Key × D)) := match y with
  | .nd (.dK ks) vs => some (ks.zip vs)
  | .ref a => (match G a with
    | some (.dK kvs) => some kvs
    | _ => none)
  | _ => none
def D.kK : D → Option Key
  | .int i => some (.inl i)
  | .str x => some (.inr x)
  | _ => none
/-- what stands at a key -/
def dval {κ : Type} [DecidableEq κ] (kvs : List (κ × D)) (k : κ) : Option D := (kvs.find? fun p => decide (p.1 = k)).map (·.2)
/-- d[k] = v -/
def dput {κ : Type} [DecidableEq κ] (kvs : List (κ × D)) (k : κ) (v : D) : List (κ × D) :=
  if kvs.any fun p => decide (p.1 = k) then kvs.map fun p => if p.1 = k then (p.1, v) else p else kvs ++ [(k, v)]
def ddrop {κ : Type} [DecidableEq κ] (kvs : List (κ × D)) (k : κ) : List (κ × D) := kvs.filter fun p => decide (p.1 ≠ k)
theorem fst_zip {α β : Type} : ∀ {l : List α} {m : List β}, l.length = m.length → (l.zip m).map (·.1) = l
  | [], _, _ => rfl
  | _ :: _, [], h => by simp at h
  | a :: l, b :: m, h => by simp [fst_zip (l := l) (m := m) (by simpa using h)]
theorem snd_zip {α β : Type} : ∀ {l : List α} {m : List β}, l.length = m.length → (l.zip m).map (·.2) = m
  | [], [], _ => rfl
  | [], _ :: _, h => by simp at h
  | _ :: _, [], h => by simp at h
  | a :: l, b :: m, h => by simp [snd_zip (l := l) (m := m) (by simpa using h)]
section
variable {K : Ml} {H : Hp} {G : DHp}
theorem dicN_at (hr : HR K H G) {d : D} {v : V} {kvs : List (NestedKey × D)} (h : VR K H G d v) (e : dicN d G = some kvs) : ∃ a ws, v = .ref a ∧ DnAt K H a (kvs.map (·.1)) ws ∧ VRs K H G (kvs.map (·.2)) ws := by
  cases d with
  | ref a =>
    rw [VR] at h
    have e : (match G a with | some (.dN kvs) => some kvs | _ => none) = some kvs := e
    cases g : G a with
    | none => rw [g] at e; cases e
    | some o =>
      cases o with
      | dN kvs' =>
        rw [g] at e
        cases e
        obtain ⟨ws, q, r⟩ := hr a _ g
        exact ⟨a, ws, h, q, r⟩
      | _ => rw [g] at e; cases e
  | nd k ds =>
    cases k with
    | dN ks =>
      cases e
      rw [VR] at h
      obtain ⟨a, vs, ev, ⟨_, q⟩, r⟩ := h
      have hl : ks.length = ds.length := by
        obtain ⟨xs, _, _, _, _, _, h4, _, _, _, h8⟩ := id q
        rw [← r.length, h8.length, ← h4, List.length_map, List.length_map]
      exact ⟨a, vs, ev, by rw [fst_zip hl]; exact q, by rw [snd_zip hl]; exact r⟩
    | _ => cases e
  | _ => cases e
theorem dicK_at (hr : HR K H G) {d : D} {v : V} {kvs : List (Key × D)} (h : VR K H G d v) (e : dicK d G = some kvs) : ∃ a ws, v = .ref a ∧ Rd H a (.dK ws) ∧ ws.map (·.1) = kvs.map (·.1) ∧ VRs K H G (kvs.map (·.2)) (ws.map (·.2)) := by
  cases d with
  | ref a =>
    rw [VR] at h
    have e : (match G a with | some (.dK kvs) => some kvs | _ => none) = some kvs := e
    cases g : G a with
    | none => rw [g] at e; cases e
    | some o =>
      cases o with
      | dK kvs' =>
        rw [g] at e
        cases e
        obtain ⟨ws, q, z, r⟩ := hr a _ g
        exact ⟨a, ws, h, .inl q, z, r⟩
      | _ => rw [g] at e; cases e
  | nd k ds =>
    cases k with
    | dK ks =>
      cases e
      rw [VR] at h
      obtain ⟨a, vs, ev, ⟨l, o, q⟩, r⟩ := h
      have hl : ks.length = ds.length := by rw [l, r.length]
      exact ⟨a, ks.zip vs, ev, .inr ⟨o, q⟩, by rw [fst_zip l, fst_zip hl], by rw [snd_zip l, snd_zip hl]; exact r⟩
    | _ => cases e
  | _ => cases e
/-- the values found by keys are the same -/
theorem dval_vr {κ : Type} [DecidableEq κ] (k : κ) : ∀ {ws : List (κ × V)} {kvs : List (κ × D)}, ws.map (·.1) = kvs.map (·.1) → VRs K H G (kvs.map (·.2)) (ws.map (·.2)) → (dval kvs k = none ∧ valV ws k = none) ∨ ∃ d v, dval kvs k = some d ∧ valV ws k = some v ∧ VR K H G d v
  | [], [], _, _ => .inl ⟨rfl, rfl⟩
  | [], _ :: _, h, _ => by simp at h
  | _ :: _, [], h, _ => by simp at h
  | (k1, v) :: ws, (k2, d) :: kvs, h, r => by
    simp only [List.map_cons, List.cons.injEq] at h
    obtain ⟨h1, h2⟩ := h
    subst h1
    obtain ⟨v', r', e, q, t⟩ := VRs.uncons r
    simp only [List.map_cons, List.cons.injEq] at e
    obtain ⟨rfl, rfl⟩ := e
    by_cases hk : k1 = k
    · exact .inr ⟨d, v, by simp [dval, hk], by simp [valV, hk], q⟩
    · have := dval_vr k h2 t
      simpa [dval, valV, hk] using this
mutual
theorem key_at : ∀ {d : D} {v : V} {k : NestedKey}, VR K H G d v → D.key d = some k → KeyAt K H k v
  | .non, _, _, h, e => by rw [D.key] at e; cases e; rw [VR] at h; rw [KeyAt]; exact h
  | .bl _, _, _, h, e => by simp [D.key] at e
  | .int _, _, _, h, e => by rw [D.key] at e; cases e; rw [VR] at h; rw [KeyAt]; exact h
  | .str _, _, _, h, e => by rw [D.key] at e; cases e; rw [VR] at h; rw [KeyAt]; exact h
  | .ty _, _, _, h, e => by simp [D.key] at e
  | .ref _, _, _, h, e => by simp [D.key] at e
  | .nd .tup ds, _, _, h, e => by
    rw [D.key] at e
    cases q : D.keys ds with
    | none => rw [q] at e; cases e
    | some ks =>
      rw [q] at e
      cases e
      rw [VR] at h
      obtain ⟨a, vs, rfl, hh, r⟩ := h
      rw [KeyAt]
      exact ⟨a, vs, rfl, hh, keys_at r q⟩
  | .nd .lst _, _, _, h, e => by simp [D.key] at e
  | .nd .scr _, _, _, h, e => by simp [D.key] at e
  | .nd (.ins _ _) _, _, _, h, e => by simp [D.key] at e
  | .nd (.dK _) _, _, _, h, e => by simp [D.key] at e
  | .nd (.dN _) _, _, _, h, e => by simp [D.key] at e
theorem keys_at : ∀ {ds : List D} {vs : List V} {ks : List NestedKey}, VRs K H G ds vs → D.keys ds = some ks → KeysAt K H ks vs
  | [], _, _, h, e => by rw [D.keys] at e; cases e; rw [KeysAt]; exact h.nil_of
  | d :: ds, _, _, h, e => by
    obtain ⟨v, r, rfl, q, t⟩ := h.uncons
    rw [D.keys] at e
    cases e1 : D.key d with
    | none => rw [e1] at e; cases e
    | some k =>
      cases e2 : D.keys ds with
      | none => rw [e1, e2] at e; cases e
      | some ks' =>
        rw [e1, e2] at e
        cases e
        rw [KeysAt]
        exact ⟨v, r, rfl, key_at q e1, keys_at t e2⟩
end
mutual
/-- a key that is held, as a tree -/
theorem nkD_vr : ∀ {k : NestedKey} {v : V}, KeyAt K H k v → VR K H G (nkD k) v
  | .none, _, h => by rw [KeyAt] at h; rw [nkD, VR]; exact h
  | .num _, _, h => by rw [KeyAt] at h; rw [nkD, VR]; exact h
  | .text _, _, h => by rw [KeyAt] at h; rw [nkD, VR]; exact h
  | .tup ks, _, h => by
    rw [KeyAt] at h
    obtain ⟨a, vs, rfl, q, r⟩ := h
    rw [nkD, VR]
    exact ⟨a, vs, rfl, q, nkDs_vr r⟩
theorem nkDs_vr : ∀ {ks : List NestedKey} {vs : List V}, KeysAt K H ks vs → VRs K H G (nkDs ks) vs
  | [], _, h => by rw [KeysAt] at h; rw [nkDs, VRs]; exact h
  | k :: ks, _, h => by
    rw [KeysAt] at h
    obtain ⟨v, r, rfl, q, t⟩ := h
    rw [nkDs]
    exact .cons (nkD_vr q) (nkDs_vr t)
end
end
section
variable {X : Cx}
mutual
theorem nested_is {pins : List (Addr × Obj)} {σ : L2.St} {H : Hp} {s : Shared} (I : Inv X pins σ H s) : ∀ {k : NestedKey} {v : V} {u : Value}, KeyAt X.ml H k v → RelV v u → NestedIs s.heap k u
  | .none, _, _, h, r => by rw [KeyAt] at h; subst h; cases (show _ = Value.none from r); exact .none
  | .num i, _, _, h, r => by rw [KeyAt] at h; subst h; obtain ⟨t, rfl⟩ := r; exact .int i t
  | .text x, _, _, h, r => by rw [KeyAt] at h; subst h; obtain ⟨t, rfl⟩ := r; exact .text x t
  | .tup ks, _, _, h, r => by
    rw [KeyAt] at h
    obtain ⟨a, vs, rfl, q, t⟩ := h
    cases (show _ = Value.ref a from r)
    obtain ⟨its, rv, ⟨o, ho, hc, n, hd⟩, _⟩ := I.tuple q
    exact .tup ho hc hd (nested_all I t rv)
theorem nested_all {pins : List (Addr × Obj)} {σ : L2.St} {H : Hp} {s : Shared} (I : Inv X pins σ H s) : ∀ {ks : List NestedKey} {vs : List V} {us : List Value}, KeysAt X.ml H ks vs → Vals vs us → NestedAll s.heap ks us
  | [], _, _, h, r => by rw [KeysAt] at h; subst h; cases r; exact .nil
  | k :: ks, _, _, h, r => by
    rw [KeysAt] at h
    obtain ⟨v, w, rfl, q, t⟩ := h
    cases r with
    | cons r1 r2 => exact .cons (nested_is I q r1) (nested_all I t r2)
end
/-- a dict with nested keys at the library's level -/
theorem DnAt.of {pins : List (Addr × Obj)} {σ : L2.St} {H : Hp} {s : Shared} {a : Addr} {ks : List NestedKey} {vs : List V} (I : Inv X pins σ H s) (h : DnAt X.ml H a ks vs) :
    ∃ xs es ep, H a = some (rawO a es ep) ∧ s.heap.DictRaw a es ep ∧ es.toList = xs.map (entryOfKey (nestedKind X.prog X.w)) ∧ s.heap.DictOfH (nestedKind X.prog X.w) a xs ∧ (a == sysModules) = false ∧ xs.map (·.1) = ks ∧ ks.length ≤ sizeLine ∧ (∀ x ∈ xs, KeyAt X.ml H x.1 (.ref x.2.1) ∧ x.1.depth ≤ 8) ∧ Vals vs (xs.map (·.2.2)) := by
  obtain ⟨xs, es, ep, h1, h2, h3, h4, h5, h6, h7, h8⟩ := h
  obtain ⟨φ, _, _⟩ := (show ObjOk X.prog X.w H s.heap a (rawO a es ep) from I.hok a _ h1)
  refine ⟨xs, es, ep, h1, φ, h3, ?_, h2, h4, h6, h7, h8⟩
  obtain ⟨o, ho, hc, hd⟩ := φ
  exact ⟨o, es, ep, ho, hc, hd, h3, fun x hx => ⟨nested_is I (h7 x hx).1 rfl, (h7 x hx).2⟩, by rw [h4]; exact h5⟩
theorem nk_room {A : Around} (hu : A.units + 64 < cLine) : (nestedKind X.prog X.w).room A.in1 := by
  show A.units + 1 + 8 < cLine
  omega
/-- the dict at a has been written -/
theorem dn_write {pins : List (Addr × Obj)} {σ : L2.St} {H : Hp} {s : Shared} {a : Addr} {es es' : Array DictEntry} {ep ep' t' : Nat} {h' : Heap} (I : Inv X pins σ H s) (hH : H a = some (rawO a es ep)) (hs : Heap.SameBut a s.heap h') (hr : h'.DictRaw a es' ep') :
    Inv X pins σ (upd H a (rawO a es' ep')) { s with heap := h', toks := t' } := by
  obtain ⟨o, ho, hc, hd⟩ := id hr
  exact I.write (by rw [hH]; trivial) (.inl rfl) (fun b u hb e => (hs.2 b hb).trans e) ⟨o, ho⟩ ⟨hr, ⟨o, ho⟩, fun h1 h2 φ k => φ.at k⟩
theorem entry_get {K : Type} {xs : List (NestedKey × Addr × Value)} {k : NestedKey} {vs : List V} (r : Vals vs (xs.map (·.2.2))) : ∀ (kvs : List (NestedKey × D)) (H : Hp) (G : DHp) (M : Ml), xs.map (·.1) = kvs.map (·.1) → VRs M H G (kvs.map (·.2)) vs →
    (dval kvs k = none ∧ atKey xs k = none) ∨ ∃ d v p, dval kvs k = some d ∧ atKey xs k = some p ∧ RelV v p.2 ∧ VR M H G d v := by
  induction xs generalizing vs with
  | nil =>
    intro kvs H G M h1 h2
    cases kvs with
    | nil => exact .inl ⟨rfl, rfl⟩
    | cons _ _ => simp at h1
  | cons x xs ih =>
    intro kvs H G M h1 h2
    cases kvs with
    | nil => simp at h1
    | cons y kvs =>
      obtain ⟨k2, d⟩ := y
      simp only [List.map_cons, List.cons.injEq] at h1
      obtain ⟨v, w, rfl, q, t⟩ := VRs.uncons h2
      cases r with
      | cons r1 r2 =>
        by_cases hk : k2 = k
        · exact .inr ⟨d, v, x.2, by simp [dval, hk], by simp [atKey, h1.1, hk], r1, q⟩
        · have hk' : ¬ x.1 = k := by rw [h1.1]; exact hk
          have := ih r2 kvs H G M h1.2 t
          simpa [dval, atKey, hk, hk'] using this
theorem any_dval {κ : Type} [DecidableEq κ] (k : κ) : ∀ kvs : List (κ × D), (kvs.any fun p => decide (p.1 = k)) = (dval kvs k).isSome
  | [] => rfl
  | (a, d) :: kvs => by
    by_cases h : a = k
    · simp [dval, h]
    · have := any_dval k kvs
      simp only [List.any_cons, h, decide_false, Bool.false_or, this]
      simp [dval, h]
/-! ### in -/
def dIn (neg : Bool) : DR2 := fun x y G Q => match der y G with
  | .nd .lst ds => (plainD x = true ∧ plainDs ds = true ∧ SeqAt.shaped (py x) = true ∧ PyData.canLayAll0 (pys ds) = true) ∧ Q (.bl (neg != (pys ds).any fun z => PyData.eqv z (py x))) G
  | .nd .tup ds => (plainD x = true ∧ plainDs ds = true ∧ SeqAt.shaped (py x) = true ∧ PyData.canLayAll0 (pys ds) = true) ∧ Q (.bl (neg != (pys ds).any fun z => PyData.eqv z (py x))) G
  | _ => match dicN y G with
    | some kvs => (match x with
      | .nd .tup _ => (match x.key with
        | some k => k.depth ≤ 8 ∧ Q (.bl (neg != (dval kvs k).isSome)) G
        | none => False)
      | _ => False)
    | none => match dicK y G with
      | some kvs => (match x.kK with
        | some k => Q (.bl (neg != (dval kvs k).isSome)) G
        | none => False)
      | none => False
theorem kK_vr {K : Ml} {H : Hp} {G : DHp} {d : D} {v : V} {k : Key} (h : VR K H G d v) (e : d.kK = some k) : v = kV k := by
  cases d with
  | int i => rw [VR] at h; cases e; exact h
  | str i => rw [VR] at h; cases e; exact h
  | _ => cases e
theorem od_in (hu : X.A.units + 65 < cLine) : OpD X (compareOp .In) (dIn false) := opd_of fun pins s σ H G x y v u dx dy P I rx ry hr q1 q2 t => by
  unfold dIn at t
  split at t
  · rename_i ds e
    obtain ⟨⟨p1, p2, s1, s2⟩, t⟩ := t
    have hp := der_dp hr q2 (by rw [e, plainD]; exact p2)
    rw [e, py] at hp
    obtain ⟨as, r1⟩ := Dp.reads I _ _ v (q1.dp p1) rx
    obtain ⟨bs, r2⟩ := Dp.reads I _ _ u hp ry
    exact SeqAt.in_list_reads r2 r1 s2 (SeqAt.canLay_of_shaped s1) (room_in_shaped s1 hu) (opd_fin (z := .bl _) I rfl hr (d := .bl ((pys ds).any fun z => PyData.eqv z (py dx))) (by rw [VR]) (by simpa using t))
  · rename_i ds e
    obtain ⟨⟨p1, p2, s1, s2⟩, t⟩ := t
    have hp := der_dp hr q2 (by rw [e, plainD]; exact p2)
    rw [e, py] at hp
    obtain ⟨as, r1⟩ := Dp.reads I _ _ v (q1.dp p1) rx
    obtain ⟨bs, r2⟩ := Dp.reads I _ _ u hp ry
    exact SeqAt.in_tuple_reads r2 r1 s2 (SeqAt.canLay_of_shaped s1) (room_in_shaped s1 hu) (opd_fin (z := .bl _) I rfl hr (d := .bl ((pys ds).any fun z => PyData.eqv z (py dx))) (by rw [VR]) (by simpa using t))
  · split at t
    · rename_i kvs e
      cases dx with
      | nd kd ds =>
        cases kd with
        | tup =>
          have t : (match D.key (.nd .tup ds) with | some k => k.depth ≤ 8 ∧ P (.bl (false != (dval kvs k).isSome)) G | none => False) := t
          cases ek : D.key (.nd .tup ds) with
          | none => rw [ek] at t; exact t.elim
          | some k =>
            rw [ek] at t
            obtain ⟨hd8, t⟩ := (show k.depth ≤ 8 ∧ P (.bl (false != (dval kvs k).isSome)) G from t)
            have ka := key_at q1 ek
            obtain ⟨a, ws, rfl, dn, vr⟩ := dicN_at hr q2 e
            obtain ⟨xs, es, ep, h1, h2, h3, h4, h5, h6, h7, h8, h9⟩ := DnAt.of I dn
            rw [VR] at q1
            obtain ⟨b, vs, rfl, hb, rb⟩ := q1
            cases (show v = Value.ref b from rx)
            cases (show u = Value.ref a from ry)
            refine wpAny_in_heap (nk_room (by omega)) ⟨nested_is I ka rfl, hd8⟩ h5 h4 (opd_fin (z := .bl _) (I.tok _) rfl hr (d := .bl (atKey xs k).isSome) (by rw [VR]) ?_)
            rcases entry_get (K := Unit) (k := k) h9 kvs H G X.ml h6 vr with ⟨e1, e2⟩ | ⟨d, w, p, e1, e2, _, _⟩
            · rw [e2]; rw [e1] at t; simpa using t
            · rw [e2]; rw [e1] at t; simpa using t
        | _ => exact t.elim
      | _ => exact t.elim
    · split at t
      · rename_i kvs e
        cases ek : dx.kK with
        | none => rw [ek] at t; exact t.elim
        | some k =>
          rw [ek] at t
          have t : P (.bl (false != (dval kvs k).isSome)) G := t
          obtain ⟨a, ws, rfl, rd, e1, vr⟩ := dicK_at hr q2 e
          cases (show u = Value.ref a from ry)
          have ex := kK_vr q1 ek
          subst ex
          have g : DGet H a (kV k) (valV ws k) := .inl ⟨ws, k, rd, rfl, rfl⟩
          refine d_in (by omega) I g rx fun s' I' => opd_fin (z := .bl _) I' rfl hr (d := .bl (valV ws k).isSome) (by rw [VR]) ?_
          rcases dval_vr k e1 vr with ⟨e2, e3⟩ | ⟨d, w, e2, e3, _⟩
          · rw [e3]; rw [e2] at t; simpa using t
          · rw [e3]; rw [e2] at t; simpa using t
      · exact t.elim
theorem od_notin (hu : X.A.units + 65 < cLine) : OpD X (compareOp .NotIn) (dIn true) := opd_of fun pins s σ H G x y v u dx dy P I rx ry hr q1 q2 t => by
  unfold dIn at t
  split at t
  · rename_i ds e
    obtain ⟨⟨p1, p2, s1, s2⟩, t⟩ := t
    have hp := der_dp hr q2 (by rw [e, plainD]; exact p2)
    rw [e, py] at hp
    obtain ⟨as, r1⟩ := Dp.reads I _ _ v (q1.dp p1) rx
    obtain ⟨bs, r2⟩ := Dp.reads I _ _ u hp ry
    exact SeqAt.notIn_list_reads r2 r1 s2 (SeqAt.canLay_of_shaped s1) (room_in_shaped s1 hu) (opd_fin (z := .bl _) I rfl hr (d := .bl (!(pys ds).any fun z => PyData.eqv z (py dx))) (by rw [VR]) (by simpa using t))
  · rename_i ds e
    obtain ⟨⟨p1, p2, s1, s2⟩, t⟩ := t
    have hp := der_dp hr q2 (by rw [e, plainD]; exact p2)
    rw [e, py] at hp
    obtain ⟨as, r1⟩ := Dp.reads I _ _ v (q1.dp p1) rx
    obtain ⟨bs, r2⟩ := Dp.reads I _ _ u hp ry
    exact SeqAt.notIn_tuple_reads r2 r1 s2 (SeqAt.canLay_of_shaped s1) (room_in_shaped s1 hu) (opd_fin (z := .bl _) I rfl hr (d := .bl (!(pys ds).any fun z => PyData.eqv z (py dx))) (by rw [VR]) (by simpa using t))
  · split at t
    · rename_i kvs e
      cases dx with
      | nd kd ds =>
        cases kd with
        | tup =>
          have t : (match D.key (.nd .tup ds) with | some k => k.depth ≤ 8 ∧ P (.bl (true != (dval kvs k).isSome)) G | none => False) := t
          cases ek : D.key (.nd .tup ds) with
          | none => rw [ek] at t; exact t.elim
          | some k =>
            rw [ek] at t
            obtain ⟨hd8, t⟩ := (show k.depth ≤ 8 ∧ P (.bl (true != (dval kvs k).isSome)) G from t)
            have ka := key_at q1 ek
            obtain ⟨a, ws, rfl, dn, vr⟩ := dicN_at hr q2 e
            obtain ⟨xs, es, ep, h1, h2, h3, h4, h5, h6, h7, h8, h9⟩ := DnAt.of I dn
            rw [VR] at q1
            obtain ⟨b, vs, rfl, hb, rb⟩ := q1
            cases (show v = Value.ref b from rx)
            cases (show u = Value.ref a from ry)
            show wpAny _ _ (do return Value.bool (!(← contains (.ref a) (.ref b)))) _ X.xe s
            refine wpAny_bind (wpAny_contains_heap (nk_room (X := X) (A := X.A) (by omega)) ⟨nested_is I ka rfl, hd8⟩ h5 h4 (wpAny_pure (opd_fin (z := .bl _) (I.tok _) rfl hr (d := .bl (!(atKey xs k).isSome)) (by rw [VR]) ?_)))
            rcases entry_get (K := Unit) (k := k) h9 kvs H G X.ml h6 vr with ⟨e1, e2⟩ | ⟨d, w, p, e1, e2, _, _⟩
            · rw [e2]; rw [e1] at t; simpa using t
            · rw [e2]; rw [e1] at t; simpa using t
        | _ => exact t.elim
      | _ => exact t.elim
    · split at t
      · rename_i kvs e
        cases ek : dx.kK with
        | none => rw [ek] at t; exact t.elim
        | some k =>
          rw [ek] at t
          have t : P (.bl (true != (dval kvs k).isSome)) G := t
          obtain ⟨a, ws, rfl, rd, e1, vr⟩ := dicK_at hr q2 e
          cases (show u = Value.ref a from ry)
          have ex := kK_vr q1 ek
          subst ex
          have g : DGet H a (kV k) (valV ws k) := .inl ⟨ws, k, rd, rfl, rfl⟩
          refine d_notIn (by omega) I g rx fun s' I' => opd_fin (z := .bl _) I' rfl hr (d := .bl (!(valV ws k).isSome)) (by rw [VR]) ?_
          rcases dval_vr k e1 vr with ⟨e2, e3⟩ | ⟨d, w, e2, e3, _⟩
          · rw [e3]; rw [e2] at t; simpa using t
          · rw [e3]; rw [e2] at t; simpa using t
      · exact t.elim
end
end DL
namespace DL
open PySem PySem.Spec PyProof.Rows L2

section
variable {K : Ml} {H : Hp} {G : DHp}
/-! ### a dict's entries behind a store -/
theorem dput_map {κ : Type} [DecidableEq κ] (kvs : List (κ × D)) (k : κ) (v : D) : (dput kvs k v).map (·.1) = if (dval kvs k).isSome then kvs.map (·.1) else kvs.map (·.1) ++ [k] := by
  unfold dput
  rw [any_dval]
  split
  · rw [List.map_map]
    refine List.map_congr_left fun x _ => ?_
    simp only [Function.comp]
    split <;> rfl
  · simp
theorem put_map {κ : Type} [DecidableEq κ] (kvs : List (κ × V)) (k : κ) (v : V) : (putK kvs k v).map (·.1) = if (valV kvs k).isSome then kvs.map (·.1) else kvs.map (·.1) ++ [k] := by
  unfold putK
  rw [valV_any]
  split
  · rw [List.map_map]
    refine List.map_congr_left fun x _ => ?_
    simp only [Function.comp]
    split <;> rfl
  · simp
theorem dval_some {κ : Type} [DecidableEq κ] {k : κ} : ∀ {ws : List (κ × V)} {kvs : List (κ × D)}, ws.map (·.1) = kvs.map (·.1) → (valV ws k).isSome = (dval kvs k).isSome
  | [], [], _ => rfl
  | [], _ :: _, h => by simp at h
  | _ :: _, [], h => by simp at h
  | (k1, v) :: ws, (k2, d) :: kvs, h => by
    simp only [List.map_cons, List.cons.injEq] at h
    obtain ⟨h1, h2⟩ := h
    subst h1
    by_cases hk : k1 = k
    · simp [dval, valV, hk]
    · have := dval_some (k := k) h2
      simpa [dval, valV, hk] using this
theorem repl_vr {κ : Type} [DecidableEq κ] (k : κ) {d : D} {v : V} (hv : VR K H G d v) : ∀ {ws : List (κ × V)} {kvs : List (κ × D)}, ws.map (·.1) = kvs.map (·.1) → VRs K H G (kvs.map (·.2)) (ws.map (·.2)) →
    VRs K H G ((kvs.map fun p => if p.1 = k then (p.1, d) else p).map (·.2)) ((ws.map fun p => if p.1 = k then (p.1, v) else p).map (·.2))
  | [], [], _, _ => .nil
  | [], _ :: _, h, _ => by simp at h
  | _ :: _, [], h, _ => by simp at h
  | (k1, w) :: ws, (k2, e) :: kvs, h, r => by
    simp only [List.map_cons, List.cons.injEq] at h
    obtain ⟨h1, h2⟩ := h
    subst h1
    obtain ⟨v', r', eq, q, t⟩ := VRs.uncons r
    simp only [List.map_cons, List.cons.injEq] at eq
    obtain ⟨rfl, rfl⟩ := eq
    by_cases hk : k1 = k
    · simp only [List.map_cons, hk, if_true]
      exact .cons hv (repl_vr k hv h2 t)
    · simp only [List.map_cons, hk, if_false]
      exact .cons q (repl_vr k hv h2 t)
theorem put_vr {κ : Type} [DecidableEq κ] (k : κ) {d : D} {v : V} (hv : VR K H G d v) {ws : List (κ × V)} {kvs : List (κ × D)} (h : ws.map (·.1) = kvs.map (·.1)) (r : VRs K H G (kvs.map (·.2)) (ws.map (·.2))) :
    (putK ws k v).map (·.1) = (dput kvs k d).map (·.1) ∧ VRs K H G ((dput kvs k d).map (·.2)) ((putK ws k v).map (·.2)) := by
  refine ⟨by rw [put_map, dput_map, h, dval_some h], ?_⟩
  unfold dput putK
  rw [any_dval, valV_any, dval_some h]
  split
  · exact repl_vr k hv h r
  · rw [List.map_append, List.map_append]
    exact r.append (.cons hv .nil)
theorem dput_len {κ : Type} [DecidableEq κ] (kvs : List (κ × D)) (k : κ) (v : D) : (dput kvs k v).length ≤ kvs.length + 1 := by
  unfold dput
  split <;> simp
end

section
variable {X : Cx}
/-- the entries that stand behind a store in a dict with nested keys -/
theorem dn_put {pins : List (Addr × Obj)} {σ : L2.St} {H : Hp} {G : DHp} {s : Shared} {a b : Addr} {kvs : List (NestedKey × D)} {k : NestedKey} {d : D} {v : V} {u : Value} {h' : Heap} {t' : Nat} {es : Array DictEntry} {ep : Nat} {ws : List V} {xs : List (NestedKey × Addr × Value)}
    (I : Inv X pins σ H s) (hr : HR X.ml H G) (hG : G a = some (.dN kvs)) (hH : H a = some (rawO a es ep)) (hsm : (a == sysModules) = false) (hm : s.heap.DictOfH (nestedKind X.prog X.w) a xs) (hks : xs.map (·.1) = kvs.map (·.1)) (hat : ∀ x ∈ xs, KeyAt X.ml H x.1 (.ref x.2.1) ∧ x.1.depth ≤ 8)
    (hvs : Vals ws (xs.map (·.2.2))) (vr : VRs X.ml H G (kvs.map (·.2)) ws) (hk : KeyAt X.ml H k (.ref b)) (h8 : k.depth ≤ 8) (hv : VR X.ml H G d v) (ru : RelV v u) (hlen : kvs.length < sizeLine) (hm' : h'.DictOfH (nestedKind X.prog X.w) a (storedH xs k b u)) (hs : Heap.SameBut a s.heap h') :
    ∃ H', Inv X pins σ H' { s with heap := h', toks := t' } ∧ Ext H G H' (up G a (.dN (dput kvs k d))) ∧ HR X.ml H' (up G a (.dN (dput kvs k d))) := by
  obtain ⟨o', es', ep', ho', hc', hd', he', _, hn'⟩ := hm'
  have raw : h'.DictRaw a es' ep' := ⟨o', ho', hc', hd'⟩
  have x : Ext H G (upd H a (rawO a es' ep')) (up G a (.dN (dput kvs k d))) := .write hG
  refine ⟨_, dn_write (t' := t') I hH hs raw, x, hr.write hG ?_⟩
  have some_eq : (atKey xs k).isSome = (dval kvs k).isSome := by
    rcases entry_get (K := Unit) (k := k) hvs kvs H G X.ml hks vr with ⟨e1, e2⟩ | ⟨_, _, _, e1, e2, _, _⟩ <;> rw [e1, e2] <;> rfl
  have keys : (storedH xs k b u).map (·.1) = (dput kvs k d).map (·.1) := by
    rw [dput_map, ← some_eq, ← hks]
    unfold storedH
    split
    · rw [List.map_map]
      refine List.map_congr_left fun x _ => ?_
      simp only [Function.comp, putAt]
      split <;> rfl
    · simp
  have vals : ∃ ws', Vals ws' ((storedH xs k b u).map (·.2.2)) ∧ VRs X.ml H G ((dput kvs k d).map (·.2)) ws' := by
    have go : ∀ {xs : List (NestedKey × Addr × Value)} {kvs : List (NestedKey × D)} {ws : List V}, xs.map (·.1) = kvs.map (·.1) → Vals ws (xs.map (·.2.2)) → VRs X.ml H G (kvs.map (·.2)) ws →
        ∃ ws', Vals ws' ((xs.map (putAt k u)).map (·.2.2)) ∧ VRs X.ml H G ((kvs.map fun p => if p.1 = k then (p.1, d) else p).map (·.2)) ws' := by
      intro xs
      induction xs with
      | nil =>
        intro kvs ws h1 h2 h3
        cases kvs with
        | nil => exact ⟨[], .nil, .nil⟩
        | cons _ _ => simp at h1
      | cons y xs ih =>
        intro kvs ws h1 h2 h3
        cases kvs with
        | nil => simp at h1
        | cons z kvs =>
          obtain ⟨k2, e⟩ := z
          simp only [List.map_cons, List.cons.injEq] at h1
          obtain ⟨v0, w0, rfl, q0, t0⟩ := VRs.uncons h3
          cases h2 with
          | cons r1 r2 =>
            obtain ⟨ws', a1, a2⟩ := ih h1.2 r2 t0
            by_cases hkk : k2 = k
            · refine ⟨v :: ws', ?_, ?_⟩
              · rw [List.map_cons, List.map_cons]
                have : (putAt k u y).2.2 = u := by simp [putAt, h1.1, hkk]
                rw [this]
                exact .cons ru a1
              · simp only [List.map_cons, hkk, if_true]
                exact .cons hv a2
            · refine ⟨v0 :: ws', ?_, ?_⟩
              · rw [List.map_cons, List.map_cons]
                have : (putAt k u y).2.2 = y.2.2 := by simp [putAt, h1.1, hkk]
                rw [this]
                exact .cons r1 a1
              · simp only [List.map_cons, hkk, if_false]
                exact .cons q0 a2
    unfold storedH dput
    rw [any_dval, some_eq]
    split
    · exact go hks hvs vr
    · refine ⟨ws ++ [v], ?_, ?_⟩
      · rw [List.map_append]
        exact hvs.append (.cons ru .nil)
      · rw [List.map_append]
        exact vr.append (.cons hv .nil)
  obtain ⟨ws', v1, v2⟩ := vals
  refine ⟨ws', ⟨storedH xs k b u, es', ep', upd_same, hsm, he', keys, by rw [← keys]; exact hn', by rw [List.length_map]; have := dput_len kvs k d; omega, fun y hy => ?_, v1⟩, v2.ext hr x⟩
  have old : ∀ y ∈ xs, KeyAt X.ml (upd H a (rawO a es' ep')) y.1 (.ref y.2.1) ∧ y.1.depth ≤ 8 := fun y hy => ⟨(hat y hy).1.ext hr x, (hat y hy).2⟩
  unfold storedH at hy
  split at hy
  · obtain ⟨z, hz, rfl⟩ := List.mem_map.mp hy
    have e1 : (putAt k u z).1 = z.1 := by unfold putAt; split <;> rfl
    have e2 : (putAt k u z).2.1 = z.2.1 := by unfold putAt; split <;> rfl
    rw [e1, e2]
    exact old z hz
  · rcases List.mem_append.mp hy with hy | hy
    · exact old y hy
    · have : y = (k, b, u) := by simpa using hy
      subst this
      exact ⟨hk.ext hr x, h8⟩

/-! ### stores by places and keys -/
abbrev DSet := D → D → D → DHp → (DHp → Prop) → Prop
def liftSet (K : Ml) (r : DSet) : TSet := fun o i v H Q => ∃ do_ di dv G P, HR K H G ∧ VR K H G do_ o ∧ VR K H G di i ∧ VR K H G dv v ∧ r do_ di dv G P ∧ ∀ G' H', P G' → Ext H G H' G' → HR K H' G' → Q H'
def dSet : DSet := fun o i v G Q => match o with
  | .ref a => (match G a with
    | some (.lst ds) => (match i with
      | .int k => (match ixN ds.length k with
        | some j => Q (up G a (.lst (ds.set j v)))
        | none => False)
      | _ => False)
    | some (.dN kvs) => (match i with
      | .nd .tup ks => (match D.key (.nd .tup ks) with
        | some k => (k.depth ≤ 8 ∧ kvs.length < sizeLine) ∧ Q (up G a (.dN (dput kvs k v)))
        | none => False)
      | _ => False)
    | some (.dK kvs) => (match i.kK with
      | some k => kvs.length < sizeLine ∧ Q (up G a (.dK (dput kvs k v)))
      | none => False)
    | _ => False)
  | _ => False
theorem pset_d (hu : X.A.units + 64 < cLine) : PSet X (liftSet X.ml dSet) := by
  intro pins s σ H o i v ov iv u Q I ro ri rv ⟨do_, di, dv, G, P, hr, q1, q2, q3, t, k⟩
  cases do_ with
  | ref a =>
    rw [VR] at q1
    subst q1
    cases (show ov = Value.ref a from ro)
    cases hG : G a with
    | none =>
      have : False := by simpa [dSet, hG] using t
      exact this.elim
    | some ob =>
      cases ob with
      | ins C fs =>
        have : False := by simpa [dSet, hG] using t
        exact this.elim
      | lst ds =>
        cases di with
        | int kk =>
          rw [VR] at q2; subst q2
          obtain ⟨vs, hv, r⟩ := hr a _ hG
          cases hj : ixN ds.length kk with
          | none =>
            have : False := by simpa [dSet, hG, hj] using t
            exact this.elim
          | some j =>
            have t : P (up G a (.lst (ds.set j dv))) := by simpa [dSet, hG, hj] using t
            have x : Ext H G (upd H a (.lst (vs.set j v))) (up G a (.lst (ds.set j dv))) := .write hG
            exact set_list pins s σ H (.ref a) _ v _ _ u Q I rfl ri rv ⟨a, vs, kk, j, rfl, rfl, hv, by rw [r.length]; exact hj, k _ _ t x (hr.write hG ⟨_, upd_same, (r.set j q3).ext hr x⟩)⟩
        | _ =>
          have : False := by simpa [dSet, hG] using t
          exact this.elim
      | dK kvs =>
        cases ek : di.kK with
        | none =>
          have : False := by simpa [dSet, hG, ek] using t
          exact this.elim
        | some kk =>
          have t : kvs.length < sizeLine ∧ P (up G a (.dK (dput kvs kk dv))) := by simpa [dSet, hG, ek] using t
          obtain ⟨ws, hw, hks, r⟩ := hr a _ hG
          have e := kK_vr q2 ek
          subst e
          have x : Ext H G (upd H a (.dK (putK ws kk v))) (up G a (.dK (dput kvs kk dv))) := .write hG
          obtain ⟨p1, p2⟩ := put_vr kk q3 hks r
          have hl : ws.length < sizeLine := by
            have := congrArg List.length hks
            rw [List.length_map, List.length_map] at this
            rw [this]; exact t.1
          exact d_setItem (by omega) I (.inl ⟨ws, kk, hw, rfl, hl, rfl⟩) ri rv fun s' I' => ⟨_, I', k _ _ t.2 x (hr.write hG ⟨_, upd_same, p1, p2.ext hr x⟩)⟩
      | dN kvs =>
        cases di with
        | nd kd ks =>
          cases kd with
          | tup =>
            cases ek : D.key (.nd .tup ks) with
            | none =>
              have : False := by simpa [dSet, hG, ek] using t
              exact this.elim
            | some kk =>
              have t : (kk.depth ≤ 8 ∧ kvs.length < sizeLine) ∧ P (up G a (.dN (dput kvs kk dv))) := by simpa [dSet, hG, ek] using t
              obtain ⟨⟨h8, hl⟩, t⟩ := t
              have ka := key_at q2 ek
              rw [VR] at q2
              obtain ⟨b, vs, rfl, hb, rb⟩ := q2
              cases (show iv = Value.ref b from ri)
              obtain ⟨ws, dn, vr⟩ := hr a _ hG
              obtain ⟨xs, es, ep, h1, h2, h3, h4, h5, h6, h7, h9, h10⟩ := DnAt.of I dn
              refine wpAny_setItem_heap (hsz := by have := congrArg List.length h6; rw [List.length_map] at this; rw [this]; exact h7) (nk_room hu) ⟨nested_is I ka rfl, h8⟩ h4 fun h' hm' hs => ?_
              obtain ⟨H', I', x, r'⟩ := dn_put (t' := s.toks + (nestedKind X.prog X.w).draws kk) I hr hG h1 h5 h4 h6 h9 h10 vr ka h8 q3 rv hl hm' hs
              exact ⟨H', I', k _ _ t x r'⟩
          | _ =>
            have : False := by simpa [dSet, hG] using t
            exact this.elim
        | _ =>
          have : False := by simpa [dSet, hG] using t
          exact this.elim
  | _ => exact t.elim
def gdSub (To Ti : DTE) (r : DSet) : DTG := fun v η G Q => To η G fun o G1 => Ti η G1 fun i G2 => r o i v G2 fun G3 => Q η G3
theorem pgd_sub {o i : Expr} {To Ti : DTE} {r : DSet} {pos : Pos} (ho : PED X o To) (hi : PED X i Ti) (hs : PSet X (liftSet X.ml r))
    (ha : ∀ v, assign (.Subscript o i pos) X.env v = (do
      let ov ← holding [v] (eval o X.env)
      let iv ← holding [v, ov] (eval i X.env)
      standAt pos
      holding [v, ov, iv] (setItem ov iv v)
      release [v, ov, iv] []) := by intro _; rfl) : PGD X (.Subscript o i pos) [] (gdSub To Ti r) :=
  PG.impI (pg_sub ho hi hs ha) fun _ _ σ H v Q _ ⟨d, η, G, P, q, hs', hr, t, k⟩ =>
    ⟨η, G, _, hs', hr, t, fun d1 G1 v1 H1 p1 x1 r1 q1 => ⟨η, G1, _, hs'.ext hr x1, r1, p1, fun d2 G2 v2 H2 p2 x2 r2 q2 =>
      ⟨d1, d2, d, G2, _, r2, q1.ext r1 x2, q2, (q.ext hr x1).ext r1 x2, p2, fun G3 H3 p3 x3 r3 => k η G3 σ H3 p3 ((x1.trans x2).trans x3) (hs'.ext hr ((x1.trans x2).trans x3)) r3 rfl⟩⟩⟩

/-! ### what stands at a place, at a key -/
abbrev IxD (X : Cx) (r : DR2) : Prop := IxR X (liftR2 X.ml r)
/-- the item at a place -/
def atD (ds : List D) (y : D) (Q : D → Prop) : Prop := match y with
  | .int i => (match atI ds i with
    | some d => Q d
    | none => False)
  | _ => False
def dIx : DR2 := fun x y G Q => match der x G with
  | .nd .lst ds => atD ds y fun d => Q d G
  | .nd .scr ds => atD ds y fun d => Q d G
  | .nd .tup ds => atD ds y fun d => Q d G
  | _ => match dicN x G with
    | some kvs => (match y with
      | .nd .tup ks => (match D.key (.nd .tup ks) with
        | some k => k.depth ≤ 8 ∧ (match dval kvs k with
          | some d => Q d G
          | none => False)
        | none => False)
      | _ => False)
    | none => match dicK x G with
      | some kvs => (match y.kK with
        | some k => (match dval kvs k with
          | some d => Q d G
          | none => False)
        | none => False)
      | none => False
theorem atI_vr {K : Ml} {H : Hp} {G : DHp} {ds : List D} {vs : List V} {i : Int} {d : D} (r : VRs K H G ds vs) (e : atI ds i = some d) : ∃ v, atI vs i = some v ∧ VR K H G d v := by
  unfold atI at e ⊢
  rw [r.length]
  cases h : ixN ds.length i with
  | none => rw [h] at e; cases e
  | some j =>
    rw [h] at e
    obtain ⟨v, e1, q⟩ := r.get (show ds[j]? = some d from e)
    exact ⟨v, e1, q⟩
theorem lift_of {K : Ml} {H : Hp} {G : DHp} {P : D → DHp → Prop} {Q : VK} {d : D} {v : V} (k : ∀ d G' v H', P d G' → Ext H G H' G' → HR K H' G' → VR K H' G' d v → Q v H') (hr : HR K H G) (p : P d G) (q : VR K H G d v) : Q v H := k d G v H p (.refl _ _) hr q
theorem ixd (hu : X.A.units + 64 < cLine) : IxD X dIx := by
  intro value slice pins s σ H x y v u Q I rx ry ⟨dx, dy, G, P, hr, q1, q2, t, k⟩ hs
  have doL : ∀ (a : Addr) (ds : List D) (vs : List V), x = .ref a → SqL X.K H a vs → VRs X.ml H G ds vs → (atD ds dy fun d => P d G) → wpAny (model X.prog X.w) X.A (subscriptTail value slice v u) (EP X pins σ Q) X.xe s := by
    intro a ds vs e hq r t
    cases dy with
    | int i =>
      rw [VR] at q2; subst q2
      cases ea : atI ds i with
      | none =>
        have : False := by simpa [atD, ea] using t
        exact this.elim
      | some d =>
        have t : P d G := by simpa [atD, ea] using t
        obtain ⟨z, e2, q⟩ := atI_vr r ea
        exact ix_list value slice pins s σ H x _ v u Q I rx ry ⟨a, vs, i, z, e, rfl, hq, e2, lift_of k hr t q⟩ hs
    | _ => exact t.elim
  unfold dIx at t
  split at t
  · rename_i ds e
    obtain ⟨a, vs, e1, h1, r1⟩ := der_lst hr q1 e
    exact doL a ds vs e1 (.inl (.inl h1)) r1 t
  · rename_i ds e
    have e := der_of e (fun _ h => nomatch h)
    rw [e, VR] at q1
    obtain ⟨a, vs, e1, h1, r1⟩ := q1
    exact doL a ds vs e1 (held_lst h1 (.inr rfl)) r1 t
  · rename_i ds e
    have e := der_of e (fun _ h => nomatch h)
    rw [e, VR] at q1
    obtain ⟨a, vs, e1, h1, r1⟩ := q1
    cases dy with
    | int i =>
      rw [VR] at q2; subst q2
      cases ea : atI ds i with
      | none =>
        have : False := by simpa [atD, ea] using t
        exact this.elim
      | some d =>
        have t : P d G := by simpa [atD, ea] using t
        obtain ⟨z, e2, q⟩ := atI_vr r1 ea
        exact ix_tup value slice pins s σ H x _ v u Q I rx ry ⟨a, vs, i, z, e1, rfl, h1, e2, lift_of k hr t q⟩ hs
    | _ => exact t.elim
  · split at t
    · rename_i kvs e
      cases dy with
      | nd kd ds =>
        cases kd with
        | tup =>
          cases ek : D.key (.nd .tup ds) with
          | none =>
            have : False := by simpa [ek] using t
            exact this.elim
          | some kk =>
            simp only [ek] at t
            obtain ⟨h8, t⟩ := t
            have ka := key_at q2 ek
            obtain ⟨a, ws, rfl, dn, vr⟩ := dicN_at hr q1 e
            obtain ⟨xs, es, ep, h1, h2, h3, h4, h5, h6, h7, h9, h10⟩ := DnAt.of I dn
            rw [VR] at q2
            obtain ⟨b, vs, rfl, hb, rb⟩ := q2
            cases (show v = Value.ref a from rx)
            cases (show u = Value.ref b from ry)
            rcases entry_get (K := Unit) (k := kk) h10 kvs H G X.ml h6 vr with ⟨e1, e2⟩ | ⟨d, w, p, e1, e2, rw', qw⟩
            · rw [e1] at t; exact t.elim
            · rw [e1] at t
              exact tail_any h4.typeIs PySem.F.slot_dict_getitem.lookup (wpAny_getItem_heap (nk_room hu) ⟨nested_is I ka rfl, h8⟩ h4 e2 ⟨w, H, I.tok _, rw', lift_of k hr t qw⟩) hs
        | _ => exact t.elim
      | _ => exact t.elim
    · split at t
      · rename_i kvs e
        cases ek : dy.kK with
        | none => rw [ek] at t; exact t.elim
        | some kk =>
          rw [ek] at t
          simp only at t
          obtain ⟨a, ws, rfl, rd, e1, vr⟩ := dicK_at hr q1 e
          cases (show v = Value.ref a from rx)
          have ex := kK_vr q2 ek
          subst ex
          rcases dval_vr kk e1 vr with ⟨e2, e3⟩ | ⟨d, w, e2, e3, qw⟩
          · rw [e2] at t; exact t.elim
          · rw [e2] at t
            have g : DGet H a (kV kk) (some w) := .inl ⟨ws, kk, rd, rfl, e3.symm⟩
            exact tail_any (dict_typeIs I g) PySem.F.slot_dict_getitem.lookup (d_getItem (by omega) I g ry fun w' s' I' rw' => ⟨w, H, I', rw', lift_of k hr t qw⟩) hs
      · exact t.elim
theorem ped_ix {a b : Expr} {pos : Pos} {r : DR2} {Ta Tb : DTE} (hr : IxD X r) (ha : PED X a Ta) (hb : PED X b Tb) (hs : PlainIx b := by intro _ _; rfl) : PED X (.Subscript a b pos) (dOp r Ta Tb) :=
  PE.impI (pe_ix hr ha hb hs) fun _ _ _ _ _ _ h => op_lift h
/-! ### slices -/
abbrev DTO := DSt → DHp → (Option Int → DHp → Prop) → Prop
def liftO (K : Ml) (T : DTO) : TO := fun σ H Q => ∃ η G P, SR K H G σ η ∧ HR K H G ∧ T η G P ∧ ∀ o G' H', P o G' → Ext H G H' G' → HR K H' G' → Q o H'
abbrev POD (X : Cx) (e : Option Expr) (T : DTO) : Prop := PO X e (liftO X.ml T)
theorem PO.impI {e : Option Expr} {t t' : TO} (h : PO X e t) (i : ∀ pins s σ H Q, Inv X pins σ H s → t' σ H Q → t σ H Q) : PO X e t' := ⟨fun pins s σ H Q I q => h.run pins s σ H Q I (i _ _ _ _ _ I q)⟩
def dNoPart : DTO := fun _ G Q => Q none G
def dPart (T : DTE) : DTO := fun η G Q => T η G fun d G1 => match d with
  | .int i => Q (some i) G1
  | _ => False
theorem pod_none : POD X none dNoPart := PO.impI po_none fun _ _ _ H Q _ ⟨η, G, P, hs, hr, t, k⟩ => k none G H t (.refl _ _) hr
theorem pod_some {e : Expr} {T : DTE} (h : PED X e T) : POD X (some e) (dPart T) := PO.impI (po_some h) fun _ _ _ H Q _ ⟨η, G, P, hs, hr, t, k⟩ => ⟨η, G, _, hs, hr, t, fun d G1 v H1 p x r q => by
  cases d with
  | int i => rw [VR] at q; exact ⟨i, q, k (some i) G1 H1 p x r⟩
  | _ => exact p.elim⟩
def cutD (xs : List D) (lo hi : Option Int) : List D := (xs.drop (HT.sIx xs.length 0 lo)).take (HT.sIx xs.length xs.length hi - HT.sIx xs.length 0 lo)
theorem cut_vr {K : Ml} {H : Hp} {G : DHp} {ds : List D} {vs : List V} (r : VRs K H G ds vs) (lo hi : Option Int) : VRs K H G (cutD ds lo hi) (cutV vs lo hi) := by
  unfold cutD cutV
  rw [r.length]
  exact (r.drop _).take _
abbrev DSl := D → Option Int → Option Int → DHp → DVK → Prop
def liftSl (K : Ml) (r : DSl) : V → Option Int → Option Int → Hp → VK → Prop := fun x lo hi H Q => ∃ d G P, HR K H G ∧ VR K H G d x ∧ r d lo hi G P ∧ ∀ d G' v H', P d G' → Ext H G H' G' → HR K H' G' → VR K H' G' d v → Q v H'
def dSl : DSl := fun x lo hi G Q => match der x G with
  | .nd .lst ds => Q (.nd .lst (cutD ds lo hi)) G
  | .nd .tup ds => Q (.nd .tup (cutD ds lo hi)) G
  | _ => False
theorem sld : SlR X (liftSl X.ml dSl) := by
  intro pins s σ H x v vl vu lo hi sl Q I rx hs pl pu ⟨dx, G, P, hr, q1, t, k⟩
  unfold dSl at t
  split at t
  · rename_i ds e
    obtain ⟨a, vs, e1, h1, r1⟩ := der_lst hr q1 e
    refine sl_list pins s σ H x v vl vu lo hi sl Q I rx hs pl pu ⟨a, vs, e1, .inl (.inl h1), fun p hp => ?_⟩
    have x2 : Ext H G (upd H p (.lst (cutV vs lo hi))) G := .laid hp
    refine k _ G _ _ t x2 (hr.laid hp) ?_
    rw [VR]
    exact ⟨p, _, rfl, ⟨hr.free hp, upd_same⟩, (cut_vr r1 lo hi).ext hr x2⟩
  · rename_i ds e
    have e := der_of e (fun _ h => nomatch h)
    subst e
    rw [VR] at q1
    obtain ⟨a, vs, e1, h1, r1⟩ := q1
    refine sl_tupA pins s σ H x v vl vu lo hi sl Q I rx hs pl pu ⟨a, vs, e1, h1, fun hw => ?_, fun _ p hp => ?_⟩
    · refine k _ G _ H t (.refl _ _) hr ?_
      rw [VR]
      have e2 : cutD ds lo hi = ds := by
        unfold cutD
        have hw' : HT.sIx ds.length 0 lo = 0 ∧ HT.sIx ds.length ds.length hi = ds.length := by rw [← r1.length]; exact hw
        rw [hw'.1, hw'.2, List.drop_zero, Nat.sub_zero, List.take_length]
      rw [e2]
      exact ⟨a, vs, rfl, h1, r1⟩
    · have x2 : Ext H G (upd H p (.tup (cutV vs lo hi))) G := .laid hp
      refine k _ G _ _ t x2 (hr.laid hp) ?_
      rw [VR]
      exact ⟨p, _, rfl, .inl (.inl upd_same), (cut_vr r1 lo hi).ext hr x2⟩
  · exact t.elim
def dSlice (r : DSl) (T : DTE) (Tl Th : DTO) : DTE := fun η G Q => T η G fun x G1 => Tl η G1 fun l G2 => Th η G2 fun u G3 => r x l u G3 Q
theorem ped_slice {e : Expr} {lo hi : Option Expr} {p2 pos : Pos} {r : DSl} {T : DTE} {Tl Th : DTO} (hr : SlR X (liftSl X.ml r)) (he : PED X e T) (hl : POD X lo Tl) (hu : POD X hi Th) : PED X (.Subscript e (.Slice lo hi none p2) pos) (dSlice r T Tl Th) :=
  PE.impI (pe_slice hr he hl hu) fun _ _ σ H Q _ ⟨η, G, P, hs, hr, t, k⟩ =>
    ⟨η, G, _, hs, hr, t, fun d1 G1 v1 H1 p1 x1 r1 q1 => ⟨η, G1, _, hs.ext hr x1, r1, p1, fun l G2 H2 p2 x2 r2 => ⟨η, G2, _, (hs.ext hr x1).ext r1 x2, r2, p2, fun u G3 H3 p3 x3 r3 =>
      ⟨d1, G3, P, r3, (q1.ext r1 x2).ext r2 x3, p3, fun d G' v H' p x r q => k d G' v H' p (((x1.trans x2).trans x3).trans x) r q⟩⟩⟩⟩
/-! ### chains, minus -/
def dChain (r r' : DR2) (Ta Tb Tc : DTE) : DTE := fun η G Q => Ta η G fun x G1 => Tb η G1 fun y G2 => r x y G2 fun z G3 => match z with
  | .bl k => if k = true then Tc η G3 fun w G4 => r' y w G4 Q else Q (.bl false) G3
  | _ => False
end
end DL
namespace DL
open PySem PySem.Spec PyProof.Rows L2

section
variable {X : Cx}
/-! ### chains, minus -/
theorem chain_lift {r r' : DR2} {Ta Tb Tc : DTE} {K : Ml} {σ : L2.St} {H : Hp} {Q : VK} (h : liftE K (dChain r r' Ta Tb Tc) σ H Q) : tChain (liftR2 K r) (liftR2 K r') (liftE K Ta) (liftE K Tb) (liftE K Tc) σ H Q :=
  let ⟨η, G, P, hs, hr, t, k⟩ := h
  ⟨η, G, _, hs, hr, t, fun d1 G1 v1 H1 p1 x1 r1 q1 => ⟨η, G1, _, hs.ext hr x1, r1, p1, fun d2 G2 v2 H2 p2 x2 r2 q2 =>
    ⟨d1, d2, G2, _, r2, q1.ext r1 x2, q2, p2, fun z G3 vz H3 p3 x3 r3 q3 => by
      cases z with
      | bl c =>
        rw [VR] at q3
        refine ⟨c, q3, ?_⟩
        cases c with
        | true =>
          rw [if_pos rfl]
          have p3 : Tc η G3 fun w G4 => r' d2 w G4 P := by simpa using p3
          exact ⟨η, G3, _, ((hs.ext hr x1).ext r1 x2).ext r2 x3, r3, p3, fun dw G4 vw H4 p4 x4 r4 q4 => ⟨d2, dw, G4, P, r4, ((q2.ext r2 x3).ext r3 x4), q4, p4, fun d G' v H' p x r q => k d G' v H' p ((((x1.trans x2).trans x3).trans x4).trans x) r q⟩⟩
        | false =>
          rw [if_neg Bool.false_ne_true]
          have p3 : P (.bl false) G3 := by simpa using p3
          exact k _ G3 _ H3 p3 ((x1.trans x2).trans x3) r3 (by rw [VR])
      | _ => exact p3.elim⟩⟩⟩
theorem ped_chain {a b c : Expr} {op op' : CmpOp} {pos : Pos} {r r' : DR2} {Ta Tb Tc : DTE} (ho : OpD X (compareOp op) r) (ho' : OpD X (compareOp op') r') (ha : PED X a Ta) (hb : PED X b Tb) (hc : PED X c Tc)
    (hm : lastMarks [op, op'] [b, c] = false := by with_unfolding_all rfl) : PED X (.Compare a [op, op'] [b, c] pos) (dChain r r' Ta Tb Tc) :=
  PE.impI (pe_chain ho ho' ha hb hc hm) fun _ _ _ _ _ _ h => chain_lift h
theorem ptd_chain {a b c : Expr} {op op' : CmpOp} {pos : Pos} {r r' : DR2} {Ta Tb Tc : DTE} (ho : OpD X (compareOp op) r) (ho' : OpD X (compareOp op') r') (ha : PED X a Ta) (hb : PED X b Tb) (hc : PED X c Tc)
    (hm : lastMarks [op, op'] [b, c] = false := by with_unfolding_all rfl) : PTD X (.Compare a [op, op'] [b, c] pos) (dTest (dChain r r' Ta Tb Tc)) :=
  PT.impI (pt_chain ho ho' ha hb hc hm) fun _ _ σ H Q _ h => by
    have h2 := test_lift h
    obtain ⟨η, G, P, hs, hr, t, k⟩ := h2
    exact chain_lift ⟨η, G, P, hs, hr, t, k⟩
def dNeg (T : DTE) : DTE := fun η G Q => T η G fun d G1 => match d with
  | .int i => Q (.int (-i)) G1
  | _ => False
theorem ped_neg {a : Expr} {pos : Pos} {T : DTE} (h : PED X a T) : PED X (.UnaryOp .USub a pos) (dNeg T) :=
  PE.impI (pe_un un_neg h) fun _ _ σ H Q _ ⟨η, G, P, hs, hr, t, k⟩ => ⟨η, G, _, hs, hr, t, fun d G1 v H1 p x r q => by
    cases d with
    | int i =>
      rw [VR] at q
      exact ⟨i, q, k _ G1 _ H1 p x r (by rw [VR])⟩
    | _ => exact p.elim⟩

/-! ### calls -/
/-- what is done to a list of arguments -/
abbrev DRn := List D → DHp → DVK → Prop
def liftN (K : Ml) (r : DRn) : List V → Hp → VK → Prop := fun vs H Q => ∃ ds G P, VRs K H G ds vs ∧ HR K H G ∧ r ds G P ∧ ∀ d G' v H', P d G' → Ext H G H' G' → HR K H' G' → VR K H' G' d v → Q v H'
abbrev CallD (X : Cx) (f : Value) (r : DRn) : Prop := CallR X f (liftN X.ml r)
def dCB (r : DRn) (T : DTA) : DTE := fun η G Q => T η G fun ds G1 => r ds G1 Q
theorem cb_lift {r : DRn} {T : DTA} {K : Ml} {σ : L2.St} {H : Hp} {Q : VK} (h : liftE K (dCB r T) σ H Q) : tCB (liftN K r) (liftA K T) σ H Q :=
  let ⟨η, G, P, hs, hr, t, k⟩ := h
  ⟨η, G, _, hs, hr, t, fun ds G1 vs H1 p1 x1 r1 q1 => ⟨ds, G1, P, q1, r1, p1, fun d G' v H' p x r q => k d G' v H' p (x1.trans x) r q⟩⟩
theorem ped_callB {id : String} {x : Str} {p pos : Pos} {e : Expr} {es : List Expr} {r : DRn} {T : DTA} (hc : CallD X (.builtin id) r) (hm : X.mg x = none) (hv : bootBuiltins x = some (.builtin id)) (ha : PAD X (e :: es) T) (hg : Gl X x := by rfl) (hn : x ≠ "__name__" := by decide) (hdb : (x == ("__debug__" : Str)) = false := by decide)
    (he : starEach (e :: es) X.env = (false, eval e X.env) :: starEach es X.env := by rfl) (hpl : (backTo pos (starEach es X.env)).any (·.1) = false := by rfl) : PED X (.Call (.Name x p) (e :: es) [] pos) (dCB r T) :=
  PE.impI (pe_callB hc hg hm hv ha hn hdb he hpl) fun _ _ _ _ _ _ h => cb_lift h
theorem ped_callTy {id : String} {x : Str} {p pos : Pos} {e : Expr} {es : List Expr} {r : DRn} {T : DTA} (hc : CallD X (.type id) r) (hm : X.mg x = none) (hv : bootBuiltins x = some (.type id)) (ha : PAD X (e :: es) T) (hg : Gl X x := by rfl) (hn : x ≠ "__name__" := by decide) (hdb : (x == ("__debug__" : Str)) = false := by decide)
    (he : starEach (e :: es) X.env = (false, eval e X.env) :: starEach es X.env := by rfl) (hpl : (backTo pos (starEach es X.env)).any (·.1) = false := by rfl) : PED X (.Call (.Name x p) (e :: es) [] pos) (dCB r T) :=
  PE.impI (pe_callTy hc hg hm hv ha hn hdb he hpl) fun _ _ _ _ _ _ h => cb_lift h
theorem passX : Passes CX0 X fun _ _ _ => False := fun _ _ _ _ _ _ _ h => h.elim
/-- a def of the text keeps the promise sp -/
abbrev FnD (P : Program) (w : World) (K : PySem.W.Frag) (mg : Str → Option Value) (base : Heap) (k : Nat) (f : Addr) (fd : FuncData) (ps : List Str) (sp : DRn) : Prop := FnOk P w K mg base CX0 k f fd ps fun vs H Q _ => liftN ⟨K, w⟩ sp vs H Q
theorem ped_call {k : Nat} {f : Addr} {fd : FuncData} {ps : List Str} {sp : DRn} {x : Str} {p pos : Pos} {e : Expr} {es : List Expr} {T : DTA} (F : FnD X.prog X.w X.K X.mg X.base k f fd ps sp) (hr : Room k X.A) (hm : X.mg x = some (.ref f)) (hk : PySem.W.keepIn X.K (.ref f) = true) (hb : Binds X.K fd ps [])
    (ha : PAD X (e :: es) T) (hg : Gl X x := by rfl) (hdb : (x == ("__debug__" : Str)) = false := by decide) (he : starEach (e :: es) X.env = (false, eval e X.env) :: starEach es X.env := by rfl) (hpl : (backTo pos (starEach es X.env)).any (·.1) = false := by rfl) :
    PED X (.Call (.Name x p) (e :: es) [] pos) (dCB sp T) :=
  PE.impI (pe_call F hr hg hm hk hb .nil (passX (X := X)) ha hdb he hpl) fun _ _ _ _ _ _ h => by
    obtain ⟨η, G, P, hs, hr, t, k⟩ := cb_lift h
    exact ⟨η, G, P, hs, hr, t, fun ds G' vs H' p x r q => by
      show liftN X.ml sp (vs ++ []) H' _
      rw [List.append_nil]
      exact k ds G' vs H' p x r q⟩
theorem ped_call0 {k : Nat} {f : Addr} {fd : FuncData} {ps : List Str} {sp : DRn} {x : Str} {p pos : Pos} (F : FnD X.prog X.w X.K X.mg X.base k f fd ps sp) (hr : Room k X.A) (hm : X.mg x = some (.ref f)) (hk : PySem.W.keepIn X.K (.ref f) = true) (hb : Binds X.K fd ps [])
    (hg : Gl X x := by rfl) (hdb : (x == ("__debug__" : Str)) = false := by decide) : PED X (.Call (.Name x p) [] [] pos) (dCB sp dNil) :=
  PE.impI (pe_call0 F hr hg hm hk hb .nil (passX (X := X)) hdb) fun _ _ _ _ _ _ ⟨η, G, P, hs, hr, t, k⟩ => by
    show liftN X.ml sp ([] ++ []) _ _
    exact ⟨[], G, P, .nil, hr, t, k⟩

/-! ### methods of the builtin types -/
def tyD (T : String) (d : D) (G : DHp) : Prop := match d with
  | .str _ => T = "str"
  | .ref a => (match G a with
    | some (.lst _) => T = "list"
    | some (.dK _) => T = "dict"
    | some (.dN _) => T = "dict"
    | _ => False)
  | .nd .lst _ => T = "list"
  | .nd .scr _ => T = "list"
  | .nd (.dK _) _ => T = "dict"
  | .nd (.dN _) _ => T = "dict"
  | _ => False
theorem dn_is {pins : List (Addr × Obj)} {σ : L2.St} {H : Hp} {s : Shared} {a : Addr} {ks : List NestedKey} {vs : List V} (I : Inv X pins σ H s) (h : DnAt X.ml H a ks vs) :
    s.TypeIs (.ref a) "dict" ∧ (∀ b, Value.ref a = .ref b → ∃ ob, s.heap.get? b = some ob ∧ ob.dict = none) ∧ (a == sysModules) = false := by
  obtain ⟨xs, es, ep, h1, h2, h3, h4, h5, _⟩ := DnAt.of I h
  refine ⟨h4.typeIs, fun b q => ?_, h5⟩
  cases q
  obtain ⟨ob, ho, hx, _⟩ := h2
  exact ⟨ob, ho, hx.2.1⟩
theorem tyD_is {pins : List (Addr × Obj)} {σ : L2.St} {H : Hp} {G : DHp} {s : Shared} {T : String} {d : D} {x : V} {v : Value} (I : Inv X pins σ H s) (hr : HR X.ml H G) (q : VR X.ml H G d x) (r : RelV x v) (ty : tyD T d G) :
    s.TypeIs v T ∧ ∀ a, v = .ref a → ∃ ob, s.heap.get? a = some ob ∧ ob.dict = none := by
  have doL : ∀ (a : Addr) (vs : List V), x = .ref a → SqL X.K H a vs → s.TypeIs v "list" ∧ ∀ a, v = .ref a → ∃ ob, s.heap.get? a = some ob ∧ ob.dict = none := fun a vs e hq => by
    subst e
    exact tyV_is (T := "list") I r (.inl ⟨rfl, vs, hq⟩)
  have doK : ∀ (a : Addr), x = .ref a → IsD H a → s.TypeIs v "dict" ∧ ∀ a, v = .ref a → ∃ ob, s.heap.get? a = some ob ∧ ob.dict = none := fun a e hq => by
    subst e
    cases (show v = Value.ref a from r)
    exact ⟨(isD_at I hq).1, (isD_at I hq).2.1⟩
  have doN : ∀ (a : Addr) (ks : List NestedKey) (vs : List V), x = .ref a → DnAt X.ml H a ks vs → s.TypeIs v "dict" ∧ ∀ a, v = .ref a → ∃ ob, s.heap.get? a = some ob ∧ ob.dict = none := fun a ks vs e hq => by
    subst e
    cases (show v = Value.ref a from r)
    exact ⟨(dn_is I hq).1, (dn_is I hq).2.1⟩
  cases d with
  | str z =>
    rw [VR] at q; subst q
    cases (show T = "str" from ty)
    exact tyV_is I r (show tyV X.K "str" (.str z) H from rfl)
  | ref a =>
    rw [VR] at q
    cases e : G a with
    | none =>
      have : False := by simpa [tyD, e] using ty
      exact this.elim
    | some o =>
      have u := hr a o e
      cases o with
      | lst ds =>
        have : T = "list" := by simpa [tyD, e] using ty
        subst this
        obtain ⟨vs, z, _⟩ := u
        exact doL a vs q (.inl (.inl z))
      | dK ds =>
        have : T = "dict" := by simpa [tyD, e] using ty
        subst this
        obtain ⟨ws, z, _⟩ := u
        exact doK a q (.inl ⟨ws, .inl z⟩)
      | dN ds =>
        have : T = "dict" := by simpa [tyD, e] using ty
        subst this
        obtain ⟨ws, z, _⟩ := u
        exact doN a _ ws q z
      | ins C fs =>
        have : False := by simpa [tyD, e] using ty
        exact this.elim
  | nd k ds =>
    rw [VR] at q
    obtain ⟨a, vs, e, hh, _⟩ := q
    cases k with
    | lst =>
      cases (show T = "list" from ty)
      exact doL a vs e (held_lst hh (.inl rfl))
    | scr =>
      cases (show T = "list" from ty)
      exact doL a vs e (held_lst hh (.inr rfl))
    | dK ks =>
      cases (show T = "dict" from ty)
      obtain ⟨_, o, z⟩ := hh
      exact doK a e (.inl ⟨_, .inr ⟨o, z⟩⟩)
    | dN ks =>
      cases (show T = "dict" from ty)
      exact doN a ks vs e hh.2
    | _ => exact ty.elim
  | _ => exact ty.elim
abbrev MtD (X : Cx) (id : String) (r : DRn) : Prop := CallD X (.builtin id) r
def dM0 (T : String) (r : DRn) (To : DTE) : DTE := fun η G Q => To η G fun x G1 => tyD T x G1 ∧ r [x] G1 Q
def dM (T : String) (r : DRn) (To : DTE) (Ta : DTA) : DTE := fun η G Q => To η G fun x G1 => tyD T x G1 ∧ Ta η G1 fun ds G2 => r (x :: ds) G2 Q
theorem ped_m0 {T id : String} {o : Expr} {name : Str} {apos cpos : Pos} {r : DRn} {To : DTE} (pa : PlainAttrs T) (slot : Slot T name id) (hty : typeOf (.builtin id) = pure (.type "method_descriptor")) (hm : MtD X id r) (ho : PED X o To)
    (hbase : attributeBase o name X.env (eval o X.env) = eval o X.env := by rfl) (hline : (apos.endLine == cpos.line) = true := by rfl) : PED X (.Call (.Attribute o name apos) [] [] cpos) (dM0 T r To) := by
  refine ⟨fun pins s σ H Q I ⟨η, G, P, hs, hr, t, k⟩ => ?_⟩
  refine wpAny_Call_method0_late hbase hline (thn (ho.run pins s σ H (fun v H1 => ∃ d G1, (tyD T d G1 ∧ r [d] G1 P) ∧ Ext H G H1 G1 ∧ HR X.ml H1 G1 ∧ VR X.ml H1 G1 d v) I ⟨η, G, _, hs, hr, t, fun d G1 v H1 p x r q => ⟨d, G1, p, x, r, q⟩⟩) fun v s1 ⟨x, H1, I1, r1, d, G1, ⟨ty, p⟩, x1, hr1, q1⟩ => ?_)
  obtain ⟨h1, h2⟩ := tyD_is I1 hr1 q1 r1 ty
  exact ⟨T, id, pa, slot, hty, h1, h2, Calls.callWith_builtin rfl (PySem.evalArgs_none (hm pins s1 σ H1 [x] [v] Q I1 (.cons r1 .nil) ⟨[d], G1, P, .cons q1 .nil, hr1, p, fun d G' v H' p x r q => k d G' v H' p (x1.trans x) r q⟩))⟩
theorem ped_m {T id : String} {o e : Expr} {es : List Expr} {name : Str} {apos cpos : Pos} {r : DRn} {To : DTE} {Ta : DTA} (pa : PlainAttrs T) (slot : Slot T name id) (hty : typeOf (.builtin id) = pure (.type "method_descriptor")) (hm : MtD X id r) (ho : PED X o To) (ha : PAD X (e :: es) Ta)
    (hbase : attributeBase o name X.env (eval o X.env) = eval o X.env := by rfl)
    (hfew : ((backTo cpos (starEach (e :: es) X.env)).all (fun x => !x.1) && (backToKw cpos (keywordEach [] X.env)).all (fun x => x.1.isSome)
      && decide ((e :: es).length + ([] : List Keyword).length + (if ([] : List Keyword).isEmpty then 0 else 1) < 30)) = true := by rfl)
    (hline : (apos.endLine == cpos.line) = true := by rfl) (hs : starEach (e :: es) X.env = (false, eval e X.env) :: starEach es X.env := by rfl) (hplain : (backTo cpos (starEach es X.env)).any (·.1) = false := by rfl) :
    PED X (.Call (.Attribute o name apos) (e :: es) [] cpos) (dM T r To Ta) := by
  refine ⟨fun pins s σ H Q I ⟨η, G, P, hs', hr, t, k⟩ => ?_⟩
  refine wpAny_Call_method_late hbase hfew hline rfl (thn (ho.run pins s σ H (fun v H1 => ∃ d G1, (tyD T d G1 ∧ Ta η G1 fun ds G2 => r (d :: ds) G2 P) ∧ Ext H G H1 G1 ∧ HR X.ml H1 G1 ∧ VR X.ml H1 G1 d v) I ⟨η, G, _, hs', hr, t, fun d G1 v H1 p x r q => ⟨d, G1, p, x, r, q⟩⟩) fun v s1 ⟨x, H1, I1, r1, d, G1, ⟨ty, p⟩, x1, hr1, q1⟩ => ?_)
  obtain ⟨h1, h2⟩ := tyD_is I1 hr1 q1 r1 ty
  refine ⟨T, id, pa, slot, hty, h1, h2, ?_⟩
  have hA := ha.run cpos pins s1 σ H1 (fun vs H2 => ∃ ds G2, r (d :: ds) G2 P ∧ Ext H1 G1 H2 G2 ∧ HR X.ml H2 G2 ∧ VRs X.ml H2 G2 ds vs) I1 ⟨η, G1, _, hs'.ext hr x1, hr1, p, fun ds G2 vs H2 p x r q => ⟨ds, G2, p, x, r, q⟩⟩
  rw [hs] at hA ⊢
  refine Calls.callWith_builtin (by show (false || (backTo cpos (starEach es X.env)).any (·.1)) = false; rw [hplain] <;> rfl) (Calls.evalArgs_plain ?_)
  exact thn hA fun us s2 ⟨vs, H2, I2, r2, ds, G2, p2, x2, hr2, q2⟩ => hm pins s2 σ H2 (x :: vs) (v :: us) Q I2 (.cons r1 r2) ⟨d :: ds, G2, P, .cons (q1.ext hr1 x2) q2, hr2, p2, fun d G' v H' p x r q => k d G' v H' p ((x1.trans x2).trans x) r q⟩

theorem calld_of {f : Value} {r : DRn} (h : ∀ pins s σ H G vs us ds P, Inv X pins σ H s → Vals vs us → HR X.ml H G → VRs X.ml H G ds vs → r ds G P →
    wpAny (model X.prog X.w) X.A (call f us) (fun w s' => ∃ z d H' G', Inv X pins σ H' s' ∧ RelV z w ∧ P d G' ∧ Ext H G H' G' ∧ HR X.ml H' G' ∧ VR X.ml H' G' d z) X.xe s) : CallD X f r := by
  intro pins s σ H vs us Q I r ⟨ds, G, P, q, hr, t, k⟩
  exact thn (h pins s σ H G vs us ds P I r hr q t) fun w s' ⟨z, d, H', G', I', rz, p, x', r', q'⟩ => ⟨z, H', I', rz, k d G' z H' p x' r' q'⟩
/-- what is asked of one argument -/
def d1 (g : D → DHp → DVK → Prop) : DRn := fun ds G Q => match ds with
  | [d] => g d G Q
  | _ => False
def d2 (g : D → D → DHp → DVK → Prop) : DRn := fun ds G Q => match ds with
  | [d, e] => g d e G Q
  | _ => False
def d3 (g : D → D → D → DHp → DVK → Prop) : DRn := fun ds G Q => match ds with
  | [d, e, f] => g d e f G Q
  | _ => False
theorem calld1 {f : Value} {g : D → DHp → DVK → Prop} (h : ∀ pins s σ H G x v d P, Inv X pins σ H s → RelV x v → HR X.ml H G → VR X.ml H G d x → g d G P →
    wpAny (model X.prog X.w) X.A (call f [v]) (fun w s' => ∃ z d H' G', Inv X pins σ H' s' ∧ RelV z w ∧ P d G' ∧ Ext H G H' G' ∧ HR X.ml H' G' ∧ VR X.ml H' G' d z) X.xe s) : CallD X f (d1 g) := calld_of fun pins s σ H G vs us ds P I r hr q t => by
  match ds, q, t with
  | [d], q, t =>
    obtain ⟨x, vs, rfl, q1, q2⟩ := q.uncons
    cases q2.nil_of
    obtain ⟨u, rfl, r1⟩ := r.one
    exact h pins s σ H G x u d P I r1 hr q1 t
  | [], _, t => exact t.elim
  | _ :: _ :: _, _, t => exact t.elim
theorem calld2 {f : Value} {g : D → D → DHp → DVK → Prop} (h : ∀ pins s σ H G x y v u d e P, Inv X pins σ H s → RelV x v → RelV y u → HR X.ml H G → VR X.ml H G d x → VR X.ml H G e y → g d e G P →
    wpAny (model X.prog X.w) X.A (call f [v, u]) (fun w s' => ∃ z d H' G', Inv X pins σ H' s' ∧ RelV z w ∧ P d G' ∧ Ext H G H' G' ∧ HR X.ml H' G' ∧ VR X.ml H' G' d z) X.xe s) : CallD X f (d2 g) := calld_of fun pins s σ H G vs us ds P I r hr q t => by
  match ds, q, t with
  | [d, e], q, t =>
    obtain ⟨x, vs, rfl, q1, q2⟩ := q.uncons
    obtain ⟨y, vs, rfl, q3, q4⟩ := q2.uncons
    cases q4.nil_of
    obtain ⟨u, v, rfl, r1, r2⟩ := r.two
    exact h pins s σ H G x y u v d e P I r1 r2 hr q1 q3 t
  | [], _, t => exact t.elim
  | [_], _, t => exact t.elim
  | _ :: _ :: _ :: _, _, t => exact t.elim
theorem vals3 : ∀ {x y z : V} {us : List Value}, Vals [x, y, z] us → ∃ u v w, us = [u, v, w] ∧ RelV x u ∧ RelV y v ∧ RelV z w
  | _, _, _, _, .cons r (.cons q (.cons t .nil)) => ⟨_, _, _, rfl, r, q, t⟩
theorem calld3 {f : Value} {g : D → D → D → DHp → DVK → Prop} (h : ∀ pins s σ H G x y a v u b d e l P, Inv X pins σ H s → RelV x v → RelV y u → RelV a b → HR X.ml H G → VR X.ml H G d x → VR X.ml H G e y → VR X.ml H G l a → g d e l G P →
    wpAny (model X.prog X.w) X.A (call f [v, u, b]) (fun w s' => ∃ z d H' G', Inv X pins σ H' s' ∧ RelV z w ∧ P d G' ∧ Ext H G H' G' ∧ HR X.ml H' G' ∧ VR X.ml H' G' d z) X.xe s) : CallD X f (d3 g) := calld_of fun pins s σ H G vs us ds P I r hr q t => by
  match ds, q, t with
  | [d, e, l], q, t =>
    obtain ⟨x, vs, rfl, q1, q2⟩ := q.uncons
    obtain ⟨y, vs, rfl, q3, q4⟩ := q2.uncons
    obtain ⟨a, vs, rfl, q5, q6⟩ := q4.uncons
    cases q6.nil_of
    obtain ⟨u, v, w, rfl, r1, r2, r3⟩ := vals3 r
    exact h pins s σ H G x y a u v w d e l P I r1 r2 r3 hr q1 q3 q5 t
  | [], _, t => exact t.elim
  | [_], _, t => exact t.elim
  | [_, _], _, t => exact t.elim
  | _ :: _ :: _ :: _ :: _, _, t => exact t.elim
/-! ### list.append, .pop, .extend -/
/-- the list tracked at d -/
def onL (d : D) (G : DHp) (g : Addr → List D → Prop) : Prop := match d with
  | .ref a => (match G a with
    | some (.lst ds) => g a ds
    | _ => False)
  | _ => False
theorem onL_at {d : D} {G : DHp} {g : Addr → List D → Prop} (h : onL d G g) : ∃ a ds, d = .ref a ∧ G a = some (.lst ds) ∧ g a ds := by
  cases d with
  | ref a =>
    have h : (match G a with | some (.lst ds) => g a ds | _ => False) := h
    cases e : G a with
    | none => rw [e] at h; exact h.elim
    | some o =>
      rw [e] at h
      cases o with
      | lst ds => exact ⟨a, ds, rfl, e, h⟩
      | _ => exact h.elim
  | _ => exact h.elim
theorem onL_of {a : Addr} {G : DHp} {ds : List D} {g : Addr → List D → Prop} (e : G a = some (.lst ds)) (h : g a ds) : onL (.ref a) G g := by
  show (match G a with | some (.lst ds) => g a ds | _ => False)
  rw [e]; exact h
def dAppend : DRn := d2 fun l y G Q => onL l G fun a ds => ds.length < sizeLine ∧ Q .non (up G a (.lst (ds ++ [y])))
theorem md_append : MtD X "list.append" dAppend := calld2 fun pins s σ H G x y v u d e P I rx ry hr q1 q2 t => by
  obtain ⟨a, ds, rfl, hG, hz, t⟩ := onL_at t
  rw [VR] at q1; subst q1
  obtain ⟨vs, hv, r⟩ := hr a _ hG
  have x1 : Ext H G (upd H a (.lst (vs ++ [y]))) (up G a (.lst (ds ++ [e]))) := .write hG
  exact thn (mt_append pins s σ H _ [y] v [u] (fun z H' => z = .non ∧ H' = upd H a (.lst (vs ++ [y]))) I rx (.cons ry .nil) ⟨a, vs, y, rfl, rfl, hv, by rw [r.length]; exact hz, rfl, rfl⟩) fun w s' ⟨z, H', I', rz, e1, e2⟩ => by
    subst e1 e2
    exact ⟨.non, .non, _, _, I', rz, t, x1, hr.write hG ⟨_, upd_same, (r.append (.cons q2 .nil)).ext hr x1⟩, by rw [VR]⟩
def dPop : DRn := d1 fun l G Q => onL l G fun a ds => match ds[ds.length - 1]? with
  | some y => Q y (up G a (.lst ds.dropLast))
  | none => False
theorem md_pop : MtD X "list.pop" dPop := calld1 fun pins s σ H G x v d P I rx hr q1 t => by
  obtain ⟨a, ds, rfl, hG, t⟩ := onL_at t
  rw [VR] at q1; subst q1
  obtain ⟨vs, hv, r⟩ := hr a _ hG
  cases e : ds[ds.length - 1]? with
  | none => rw [e] at t; exact t.elim
  | some y =>
    rw [e] at t
    obtain ⟨z, e2, q2⟩ := r.get e
    have x1 : Ext H G (upd H a (.lst vs.dropLast)) (up G a (.lst ds.dropLast)) := .write hG
    exact thn (mt_pop pins s σ H _ [] v [] (fun z' H' => z' = z ∧ H' = upd H a (.lst vs.dropLast)) I rx .nil ⟨a, vs, z, rfl, rfl, hv, by rw [r.length]; exact e2, rfl, rfl⟩) fun w s' ⟨z', H', I', rz, e1, e3⟩ => by
      subst e1 e3
      exact ⟨_, y, _, _, I', rz, t, x1, hr.write hG ⟨_, upd_same, r.dropLast.ext hr x1⟩, q2.ext hr x1⟩
def dPopAt : DRn := d2 fun l i G Q => onL l G fun a ds => match i with
  | .int i => (match ixN ds.length i with
    | some k => (match ds[k]? with
      | some y => Q y (up G a (.lst (ds.eraseIdx k)))
      | none => False)
    | none => False)
  | _ => False
theorem md_popAt : MtD X "list.pop" dPopAt := calld2 fun pins s σ H G x y v u d e P I rx ry hr q1 q2 t => by
  obtain ⟨a, ds, rfl, hG, t⟩ := onL_at t
  rw [VR] at q1; subst q1
  obtain ⟨vs, hv, r⟩ := hr a _ hG
  cases e with
  | int i =>
    rw [VR] at q2; subst q2
    simp only at t
    cases ek : ixN ds.length i with
    | none => rw [ek] at t; exact t.elim
    | some k =>
      rw [ek] at t
      simp only at t
      cases e : ds[k]? with
      | none => rw [e] at t; exact t.elim
      | some y =>
        rw [e] at t
        obtain ⟨z, e2, q2⟩ := r.get e
        obtain ⟨h1, h2, h3, h4⟩ := ixN_seq ek
        have hlen := (I.lstM hv).1
        have hn := line63
        have hl := r.length
        have x1 : Ext H G (upd H a (.lst (vs.eraseIdx k))) (up G a (.lst (ds.eraseIdx k))) := .write hG
        exact thn (mt_popAt pins s σ H _ [.int i] v [u] (fun z' H' => z' = z ∧ H' = upd H a (.lst (vs.eraseIdx k))) I rx (.cons ry .nil) ⟨a, vs, i, k, z, rfl, rfl, hv, by omega, by omega, by rw [hl]; exact h1, e2, rfl, rfl⟩) fun w s' ⟨z', H', I', rz, e1, e3⟩ => by
          subst e1 e3
          exact ⟨_, y, _, _, I', rz, t, x1, hr.write hG ⟨_, upd_same, (r.eraseIdx k).ext hr x1⟩, q2.ext hr x1⟩
  | _ => exact t.elim
def dExtend : DRn := d2 fun l y G Q => onL l G fun a ds => match der y G with
  | .nd .lst es => ds.length + es.length ≤ sizeLine ∧ Q .non (up G a (.lst (ds ++ es)))
  | _ => False
theorem md_extend : MtD X "list.extend" dExtend := calld2 fun pins s σ H G x y v u d e P I rx ry hr q1 q2 t => by
  obtain ⟨a, ds, rfl, hG, t⟩ := onL_at t
  rw [VR] at q1; subst q1
  obtain ⟨vs, hv, r⟩ := hr a _ hG
  split at t
  · rename_i es ed
    obtain ⟨b, ws, e1, h1, r1⟩ := der_lst hr q2 ed
    subst e1
    have x1 : Ext H G (upd H a (.lst (vs ++ ws))) (up G a (.lst (ds ++ es))) := .write hG
    exact thn (mt_extend pins s σ H _ [.ref b] v [u] (fun z H' => z = .non ∧ H' = upd H a (.lst (vs ++ ws))) I rx (.cons ry .nil) ⟨a, b, vs, ws, rfl, rfl, hv, h1, by rw [r.length, r1.length]; exact t.1, rfl, rfl⟩) fun w s' ⟨z, H', I', rz, e1, e2⟩ => by
      subst e1 e2
      exact ⟨.non, .non, _, _, I', rz, t.2, x1, hr.write hG ⟨_, upd_same, (r.append r1).ext hr x1⟩, by rw [VR]⟩
  · exact t.elim
/-! ### op= -/
def dIAdd : DR2 := fun x y G Q => match x, y with
  | .int i, .int j => Q (.int (i + j)) G
  | .str a, .str b => a.length + b.length ≤ sizeLine ∧ Q (.str (a ++ b)) G
  | .ref a, y => onL (.ref a) G fun a ds => (match der y G with
    | .nd .lst es => ds.length + es.length ≤ sizeLine ∧ Q (.ref a) (up G a (.lst (ds ++ es)))
    | _ => False)
  | _, _ => False
theorem iod_add : OpD X (inplaceOp .Add) dIAdd := opd_of fun pins s σ H G x y v u dx dy P I rx ry hr q1 q2 t => by
  unfold dIAdd at t
  split at t
  · rename_i i j
    rw [VR] at q1 q2
    subst q1 q2
    obtain ⟨t1, rfl⟩ := rx
    obtain ⟨t2, rfl⟩ := ry
    exact iadd_int (opd_fin (z := .int (i + j)) (I.tok _) ⟨_, rfl⟩ hr (by rw [VR]) t)
  · rename_i i j
    rw [VR] at q1 q2
    subst q1 q2
    exact thn (iop_add_str pins s σ H _ _ v u (fun z H' => z = .str (i ++ j) ∧ H' = H) I rx ry ⟨i, j, rfl, rfl, t.1, rfl, rfl⟩) fun w s' ⟨z, H', I', rz, e1, e2⟩ => by
      subst e1 e2
      exact opd_fin I' rz hr (by rw [VR]) t.2
  · rename_i a
    obtain ⟨a, ds, e0, hG, t⟩ := onL_at t
    cases e0
    rw [VR] at q1; subst q1
    obtain ⟨vs, hv, r⟩ := hr a _ hG
    split at t
    · rename_i es ed
      obtain ⟨b, ws, e1, h1, r1⟩ := der_lst hr q2 ed
      subst e1
      have x1 : Ext H G (upd H a (.lst (vs ++ ws))) (up G a (.lst (ds ++ es))) := .write hG
      exact thn (iop_ext pins s σ H _ _ v u (fun z H' => z = .ref a ∧ H' = upd H a (.lst (vs ++ ws))) I rx ry ⟨a, b, vs, ws, rfl, rfl, hv, h1, by rw [r.length, r1.length]; exact t.1, rfl, rfl⟩) fun w s' ⟨z, H', I', rz, e1, e2⟩ => by
        subst e1 e2
        exact ⟨.ref a, .ref a, _, _, I', rz, t.2, x1, hr.write hG ⟨_, upd_same, (r.append r1).ext hr x1⟩, by rw [VR]⟩
    · exact t.elim
  · exact t.elim
def dAug (i : Nat) (T : DTE) (r : DR2) : DTS := fun F η G => match η[i]? with
  | some (some x) => T η G fun y G1 => r x y G1 fun z G2 => F.nx (η.set i (some z)) G2
  | _ => False
theorem psd_aug {i : Nat} {x : Str} {e : Expr} {T : DTE} {op : Operator} {r : DR2} {pos' pos : Pos} (hN : X.N.Nodup) (hi : X.N[i]? = some x) (hx : Loc X.env.scope x) (he : PED X e T) (ho : OpD X (inplaceOp op) r) (hf : X.fn x = true ∨ X.env.scope.names.lookup x = some .local := by first | exact .inl rfl | exact .inr rfl | assumption) :
    PSD X (.AugAssign (.Name x pos') op e pos) (dAug i T r) :=
  PS.impI (ps_aug hN hi hx he (show PIp X op (liftR2 X.ml r) from ho) hf) fun _ _ σ H E _ ⟨η, G, F, hs, hr, t, k⟩ => by
    unfold dAug at t
    split at t
    · rename_i d e
      obtain ⟨v, q, rv⟩ := hs.2 i d e
      exact ⟨v, q, η, G, _, hs, hr, t, fun y G1 vy H1 p1 x1 r1 q1 => ⟨d, y, G1, _, r1, rv.ext hr x1, q1, p1, fun z G2 vz H2 p2 x2 r2 q2 => k.nx _ G2 _ H2 p2 (x1.trans x2) ((hs.ext hr (x1.trans x2)).set i q2) r2⟩⟩
    · exact t.elim
/-- o[i], of a list -/
def dGetL : DR2 := fun x y G Q => match der x G with
  | .nd .lst ds => atD ds y fun d => Q d G
  | _ => False
theorem get_list : OpD X getItem dGetL := opd_of fun pins s σ H G x y v u dx dy P I rx ry hr q1 q2 t => by
  unfold dGetL at t
  split at t
  · rename_i ds e
    obtain ⟨a, vs, rfl, h1, r1⟩ := der_lst hr q1 e
    cases dy with
    | int i =>
      rw [VR] at q2; subst q2
      cases ea : atI ds i with
      | none =>
        have : False := by simpa [atD, ea] using t
        exact this.elim
      | some d =>
        have t : P d G := by simpa [atD, ea] using t
        obtain ⟨z, e2, q⟩ := atI_vr r1 ea
        cases rx
        obtain ⟨tk, rfl⟩ := ry
        obtain ⟨its, r, pl, hz⟩ := I.list (.inl (.inl h1))
        obtain ⟨j, g1, g2, g3, g4, g5⟩ := atI_get e2
        obtain ⟨w, ew, rw'⟩ := r.get g2
        have hl := r.length
        have fin : ∃ z d H' G', Inv X pins σ H' s ∧ RelV z w ∧ P d G' ∧ Ext H G H' G' ∧ HR X.ml H' G' ∧ VR X.ml H' G' d z := opd_fin I rw' hr q t
        have hn := line63
        by_cases h0 : 0 ≤ i
        · have hj : i.toNat = j := by
            rw [seqIndex_of h0 g5] at g1
            exact Option.some.inj g1
          exact wpAny_getItem_list pl.isList h0 (by omega) (by rw [hj]; simpa using ew) fin
        · have hj : (i + (its.toArray.size : Int)).toNat = j := by
            rw [seqIndex_neg (by omega) g4] at g1
            rw [List.size_toArray, ← hl]
            exact Option.some.inj g1
          exact wpAny_getItem_list_neg pl.isList (by omega) (by rw [List.size_toArray] <;> omega) (by omega) (by rw [hj]; simpa using ew) fin
    | _ => exact t.elim
  · exact t.elim
def dAugS (To Ti Te : DTE) (rg rp : DR2) (rs : DSet) : DTS := fun F η G => To η G fun o G1 => Ti η G1 fun i G2 => rg o i G2 fun x G3 => Te η G3 fun y G4 => rp x y G4 fun z G5 => rs o i z G5 fun G6 => F.nx η G6
theorem psd_augS {o i e : Expr} {To Ti Te : DTE} {rg rp : DR2} {rs : DSet} {op : Operator} {tpos pos : Pos} (ho : PED X o To) (hi : PED X i Ti) (hg : OpD X getItem rg) (he : PED X e Te) (hp : OpD X (inplaceOp op) rp) (hs : PSet X (liftSet X.ml rs))
    (ha : ∀ ov iv new, augStore i ov iv new = (do holding [new, ov, iv] (setItem ov iv new); release [new, ov, iv] []; pure .next) := by intros; rfl) : PSD X (.AugAssign (.Subscript o i tpos) op e pos) (dAugS To Ti Te rg rp rs) :=
  PS.impI (ps_augS ho hi (show PGet X (liftR2 X.ml rg) from hg) he (show PIp X op (liftR2 X.ml rp) from hp) hs ha) fun _ _ σ H E _ ⟨η, G, F, hs, hr, t, k⟩ =>
    ⟨η, G, _, hs, hr, t, fun d1 G1 v1 H1 p1 x1 r1 q1 => ⟨η, G1, _, hs.ext hr x1, r1, p1, fun d2 G2 v2 H2 p2 x2 r2 q2 =>
      ⟨d1, d2, G2, _, r2, q1.ext r1 x2, q2, p2, fun d3 G3 v3 H3 p3 x3 r3 q3 => ⟨η, G3, _, hs.ext hr ((x1.trans x2).trans x3), r3, p3, fun d4 G4 v4 H4 p4 x4 r4 q4 =>
        ⟨d3, d4, G4, _, r4, q3.ext r3 x4, q4, p4, fun d5 G5 v5 H5 p5 x5 r5 q5 => ⟨d1, d2, d5, G5, _, r5, q1.ext r1 (((x2.trans x3).trans x4).trans x5), q2.ext r2 ((x3.trans x4).trans x5), q5, p5, fun G6 H6 p6 x6 r6 =>
          k.nx η G6 σ H6 p6 (((((x1.trans x2).trans x3).trans x4).trans x5).trans x6) (hs.ext hr (((((x1.trans x2).trans x3).trans x4).trans x5).trans x6)) r6⟩⟩⟩⟩⟩⟩
end
end DL
namespace DL
open PySem PySem.Spec PyProof.Rows L2

section
variable {X : Cx}
/-! ### sequences, whatever way they are held -/
def sqD (d : D) (G : DHp) : Option (List D) := match der d G with
  | .nd .lst ds => some ds
  | .nd .scr ds => some ds
  | .nd .tup ds => some ds
  | _ => none
/-- .. lists alone -/
def lsD (d : D) (G : DHp) : Option (List D) := match der d G with
  | .nd .lst ds => some ds
  | .nd .scr ds => some ds
  | _ => none
theorem lsD_at {K : Ml} {H : Hp} {G : DHp} (hr : HR K H G) {d : D} {v : V} {ds : List D} (h : VR K H G d v) (e : lsD d G = some ds) : ∃ a vs, v = .ref a ∧ SqL K.K H a vs ∧ VRs K H G ds vs := by
  unfold lsD at e
  split at e
  · rename_i es e1
    cases e
    obtain ⟨a, vs, rfl, h1, r1⟩ := der_lst hr h e1
    exact ⟨a, vs, rfl, .inl (.inl h1), r1⟩
  · rename_i es e1
    cases e
    have e1 := der_of e1 (fun _ h => nomatch h)
    subst e1
    rw [VR] at h
    obtain ⟨a, vs, rfl, h1, r1⟩ := h
    exact ⟨a, vs, rfl, held_lst h1 (.inr rfl), r1⟩
  · cases e
theorem sqD_at {K : Ml} {H : Hp} {G : DHp} (hr : HR K H G) {d : D} {v : V} {ds : List D} (h : VR K H G d v) (e : sqD d G = some ds) : ∃ a vs, v = .ref a ∧ (SqL K.K H a vs ∨ SqT K.K H a vs) ∧ VRs K H G ds vs := by
  unfold sqD at e
  split at e
  · rename_i es e1
    cases e
    obtain ⟨a, vs, rfl, h1, r1⟩ := der_lst hr h e1
    exact ⟨a, vs, rfl, .inl (.inl (.inl h1)), r1⟩
  · rename_i es e1
    cases e
    have e1 := der_of e1 (fun _ h => nomatch h)
    subst e1
    rw [VR] at h
    obtain ⟨a, vs, rfl, h1, r1⟩ := h
    exact ⟨a, vs, rfl, .inl (held_lst h1 (.inr rfl)), r1⟩
  · rename_i es e1
    cases e
    have e1 := der_of e1 (fun _ h => nomatch h)
    subst e1
    rw [VR] at h
    obtain ⟨a, vs, rfl, h1, r1⟩ := h
    exact ⟨a, vs, rfl, .inr h1, r1⟩
  · cases e
/-! ### len -/
def dLen : DRn := d1 fun d G Q => match sqD d G with
  | some ds => Q (.int ds.length) G
  | none => match dicN d G with
    | some kvs => Q (.int kvs.length) G
    | none => match dicK d G with
      | some kvs => Q (.int kvs.length) G
      | none => match d with
        | .str x => x.length ≤ sizeLine ∧ Q (.int x.length) G
        | _ => False
theorem cd_len : CallD X (.builtin "len") dLen := calld1 fun pins s σ H G x v d P I rx hr q1 t => by
  split at t
  · rename_i ds e
    obtain ⟨a, vs, rfl, hq, r⟩ := sqD_at hr q1 e
    exact thn (call_len_seq pins s σ H [.ref a] [v] (fun z H' => z = .int ds.length ∧ H' = H) I (.cons rx .nil) ⟨a, vs, rfl, hq, by rw [r.length], rfl⟩) fun w s' ⟨z, H', I', rz, e1, e2⟩ => by
      subst e1 e2
      exact opd_fin I' rz hr (by rw [VR]) t
  · split at t
    · rename_i kvs e
      obtain ⟨a, ws, rfl, dn, vr⟩ := dicN_at hr q1 e
      obtain ⟨xs, es, ep, h1, h2, h3, h4, h5, h6, h7, _⟩ := DnAt.of I dn
      cases (show v = Value.ref a from rx)
      have hl : xs.length = kvs.length := by have := congrArg List.length h6; simpa using this
      have hn := line63
      refine call_len_dictH h5 h4 (by rw [List.length_map] at h7; omega) ?_
      rw [hl]
      exact opd_fin (z := .int kvs.length) (I.tok _) ⟨_, rfl⟩ hr (by rw [VR]) t
    · split at t
      · rename_i kvs e
        obtain ⟨a, ws, rfl, rd, e1, vr⟩ := dicK_at hr q1 e
        cases (show v = Value.ref a from rx)
        have hl : ws.length = kvs.length := by have := congrArg List.length e1; simpa using this
        refine d_len I rd fun tk s' I' => ?_
        rw [hl]
        exact opd_fin (z := .int kvs.length) I' ⟨_, rfl⟩ hr (by rw [VR]) t
      · split at t
        · rename_i z _ _ _
          rw [VR] at q1; subst q1
          exact thn (call_len_str pins s σ H [.str z] [v] (fun z' H' => z' = .int z.length ∧ H' = H) I (.cons rx .nil) ⟨z, rfl, t.1, rfl, rfl⟩) fun w s' ⟨z', H', I', rz, e1, e2⟩ => by
            subst e1 e2
            exact opd_fin I' rz hr (by rw [VR]) t.2
        · exact t.elim
/-! ### ints -/
def dAbs : DRn := d1 fun d G Q => match d with
  | .int i => Q (.int (if i < 0 then -i else i)) G
  | _ => False
theorem cd_abs : CallD X (.builtin "abs") dAbs := calld1 fun pins s σ H G x v d P I rx hr q1 t => by
  cases d with
  | int i =>
    rw [VR] at q1; subst q1
    exact thn (call_abs pins s σ H [.int i] [v] (fun z' H' => z' = .int (if i < 0 then -i else i) ∧ H' = H) I (.cons rx .nil) ⟨i, rfl, rfl, rfl⟩) fun w s' ⟨z', H', I', rz, e1, e2⟩ => by
      subst e1 e2
      exact opd_fin I' rz hr (by rw [VR]) t
  | _ => exact t.elim
def dInt : DRn := d1 fun d G Q => match d with
  | .int i => Q (.int i) G
  | .bl b => Q (.int (if b then 1 else 0)) G
  | _ => False
theorem cd_int : CallD X (.type "int") dInt := calld1 fun pins s σ H G x v d P I rx hr q1 t => by
  cases d with
  | int i =>
    rw [VR] at q1; subst q1
    exact thn (call_int1 pins s σ H [.int i] [v] (fun z' H' => z' = .int i ∧ H' = H) I (.cons rx .nil) (.inl ⟨i, rfl, rfl, rfl⟩)) fun w s' ⟨z', H', I', rz, e1, e2⟩ => by
      subst e1 e2
      exact opd_fin I' rz hr (by rw [VR]) t
  | bl i =>
    rw [VR] at q1; subst q1
    exact thn (call_int1 pins s σ H [.bl i] [v] (fun z' H' => z' = .int (if i then 1 else 0) ∧ H' = H) I (.cons rx .nil) (.inr ⟨i, rfl, rfl, rfl⟩)) fun w s' ⟨z', H', I', rz, e1, e2⟩ => by
      subst e1 e2
      exact opd_fin I' rz hr (by rw [VR]) t
  | _ => exact t.elim
def dMax2 : DRn := d2 fun d e G Q => match d, e with
  | .int i, .int j => Q (.int (if j > i then j else i)) G
  | _, _ => False
def dMin2 : DRn := d2 fun d e G Q => match d, e with
  | .int i, .int j => Q (.int (if j < i then j else i)) G
  | _, _ => False
theorem cd_max2 (hc : X.calm = true) : CallD X (.builtin "max") dMax2 := calld2 fun pins s σ H G x y v u d e P I rx ry hr q1 q2 t => by
  split at t
  · rename_i i j
    rw [VR] at q1 q2; subst q1 q2
    exact thn (call_max2 hc pins s σ H [.int i, .int j] [v, u] (fun z' H' => z' = .int (if j > i then j else i) ∧ H' = H) I (.cons rx (.cons ry .nil)) ⟨i, j, rfl, rfl, rfl⟩) fun w s' ⟨z', H', I', rz, e1, e2⟩ => by
      subst e1 e2
      exact opd_fin I' rz hr (by rw [VR]) t
  · exact t.elim
theorem cd_min2 (hc : X.calm = true) : CallD X (.builtin "min") dMin2 := calld2 fun pins s σ H G x y v u d e P I rx ry hr q1 q2 t => by
  split at t
  · rename_i i j
    rw [VR] at q1 q2; subst q1 q2
    exact thn (call_min2 hc pins s σ H [.int i, .int j] [v, u] (fun z' H' => z' = .int (if j < i then j else i) ∧ H' = H) I (.cons rx (.cons ry .nil)) ⟨i, j, rfl, rfl, rfl⟩) fun w s' ⟨z', H', I', rz, e1, e2⟩ => by
      subst e1 e2
      exact opd_fin I' rz hr (by rw [VR]) t
  · exact t.elim
/-! ### over lists of ints, bools -/
def dSum : DRn := d1 fun d G Q => ∃ ns : List Int, lsD d G = some (ns.map .int) ∧ Q (.int ns.sum) G
theorem cd_sum (hc : X.calm = true) : CallD X (.builtin "sum") dSum := calld1 fun pins s σ H G x v d P I rx hr q1 ⟨ns, e, t⟩ => by
  obtain ⟨a, vs, rfl, hq, r⟩ := lsD_at hr q1 e
  have e3 := r.ints; subst e3
  exact thn (cr_sum hc pins s σ H [.ref a] [v] (fun z' H' => z' = .int ns.sum ∧ H' = H) I (.cons rx .nil) ⟨a, ns, rfl, hq, rfl, rfl⟩) fun w s' ⟨z', H', I', rz, e1, e2⟩ => by
    subst e1 e2
    exact opd_fin I' rz hr (by rw [VR]) t
def dMaxL : DRn := d1 fun d G Q => ∃ ns : List Int, lsD d G = some (ns.map .int) ∧ 0 < ns.length ∧ ∀ m ∈ ns, (∀ y ∈ ns, y ≤ m) → Q (.int m) G
def dMinL : DRn := d1 fun d G Q => ∃ ns : List Int, lsD d G = some (ns.map .int) ∧ 0 < ns.length ∧ ∀ m ∈ ns, (∀ y ∈ ns, m ≤ y) → Q (.int m) G
theorem cd_maxL (hc : X.calm = true) : CallD X (.builtin "max") dMaxL := calld1 fun pins s σ H G x v d P I rx hr q1 ⟨ns, e, hl, t⟩ => by
  obtain ⟨a, vs, rfl, hq, r⟩ := lsD_at hr q1 e
  have e3 := r.ints; subst e3
  exact thn (cr_max hc pins s σ H [.ref a] [v] (fun z' H' => (∃ m, z' = .int m ∧ m ∈ ns ∧ (∀ y ∈ ns, y ≤ m)) ∧ H' = H) I (.cons rx .nil) ⟨a, ns, rfl, hq, hl, fun m h1 h2 => ⟨⟨m, rfl, h1, h2⟩, rfl⟩⟩) fun w s' ⟨z', H', I', rz, ⟨m, e1, h1, h2⟩, e2⟩ => by
    subst e1 e2
    exact opd_fin I' rz hr (by rw [VR]) (t m h1 h2)
theorem cd_minL (hc : X.calm = true) : CallD X (.builtin "min") dMinL := calld1 fun pins s σ H G x v d P I rx hr q1 ⟨ns, e, hl, t⟩ => by
  obtain ⟨a, vs, rfl, hq, r⟩ := lsD_at hr q1 e
  have e3 := r.ints; subst e3
  exact thn (cr_min hc pins s σ H [.ref a] [v] (fun z' H' => (∃ m, z' = .int m ∧ m ∈ ns ∧ (∀ y ∈ ns, m ≤ y)) ∧ H' = H) I (.cons rx .nil) ⟨a, ns, rfl, hq, hl, fun m h1 h2 => ⟨⟨m, rfl, h1, h2⟩, rfl⟩⟩) fun w s' ⟨z', H', I', rz, ⟨m, e1, h1, h2⟩, e2⟩ => by
    subst e1 e2
    exact opd_fin I' rz hr (by rw [VR]) (t m h1 h2)
theorem VRs.bls {K : Ml} {H : Hp} {G : DHp} {bs : List Bool} {vs : List V} (h : VRs K H G (bs.map D.bl) vs) : vs = bs.map V.bl :=
  h.map_eq _ _ fun a v q => by rw [VR] at q; exact q
def dAny : DRn := d1 fun d G Q => ∃ bs : List Bool, lsD d G = some (bs.map .bl) ∧ Q (.bl (bs.any id)) G
def dAll : DRn := d1 fun d G Q => ∃ bs : List Bool, lsD d G = some (bs.map .bl) ∧ Q (.bl (bs.all id)) G
theorem cd_any (hc : X.calm = true) : CallD X (.builtin "any") dAny := calld1 fun pins s σ H G x v d P I rx hr q1 ⟨ns, e, t⟩ => by
  obtain ⟨a, vs, rfl, hq, r⟩ := lsD_at hr q1 e
  have e3 := r.bls; subst e3
  exact thn (cr_any hc pins s σ H [.ref a] [v] (fun z' H' => z' = .bl (ns.any id) ∧ H' = H) I (.cons rx .nil) ⟨a, ns, rfl, hq, rfl, rfl⟩) fun w s' ⟨z', H', I', rz, e1, e2⟩ => by
    subst e1 e2
    exact opd_fin I' rz hr (by rw [VR]) t
theorem cd_all (hc : X.calm = true) : CallD X (.builtin "all") dAll := calld1 fun pins s σ H G x v d P I rx hr q1 ⟨ns, e, t⟩ => by
  obtain ⟨a, vs, rfl, hq, r⟩ := lsD_at hr q1 e
  have e3 := r.bls; subst e3
  exact thn (cr_all hc pins s σ H [.ref a] [v] (fun z' H' => z' = .bl (ns.all id) ∧ H' = H) I (.cons rx .nil) ⟨a, ns, rfl, hq, rfl, rfl⟩) fun w s' ⟨z', H', I', rz, e1, e2⟩ => by
    subst e1 e2
    exact opd_fin I' rz hr (by rw [VR]) t
/-! ### tuple, list -/
def dTuple : DRn := d1 fun d G Q => match sqD d G with
  | some ds => Q (.nd .tup ds) G
  | none => False
theorem cd_tuple : CallD X (.type "tuple") dTuple := calld1 fun pins s σ H G x v d P I rx hr q1 t => by
  split at t
  · rename_i ds e
    obtain ⟨a, vs, rfl, hq, r⟩ := sqD_at hr q1 e
    refine thn (call_tuple_of pins s σ H [.ref a] [v] (fun z H' => Ext H G H' G ∧ HR X.ml H' G ∧ VR X.ml H' G (.nd .tup ds) z) I (.cons rx .nil) ⟨a, vs, rfl, ?_⟩) fun w s' ⟨z, H', I', rz, x', r', q'⟩ => ⟨z, _, H', G, I', rz, t, x', r', q'⟩
    rcases hq with hq | hq
    · refine .inl ⟨hq, fun l hl => ?_⟩
      have x2 : Ext H G (upd H l (.tup vs)) G := .laid hl
      refine ⟨x2, hr.laid hl, ?_⟩
      rw [VR]
      exact ⟨l, vs, rfl, .inl (.inl upd_same), r.ext hr x2⟩
    · refine .inr ⟨hq, .refl _ _, hr, ?_⟩
      rw [VR]
      exact ⟨a, vs, rfl, hq, r⟩
  · exact t.elim
/-- a new list; it is tracked -/
def dList : DRn := d1 fun d G Q => match sqD d G with
  | some ds => ∀ p, G p = none → Q (.ref p) (up G p (.lst ds))
  | none => False
theorem cd_list : CallD X (.type "list") dList := calld1 fun pins s σ H G x v d P I rx hr q1 t => by
  split at t
  · rename_i ds e
    obtain ⟨a, vs, rfl, hq, r⟩ := sqD_at hr q1 e
    refine thn (call_list_of pins s σ H [.ref a] [v] (fun z H' => ∃ p, z = .ref p ∧ H p = none ∧ H' = upd H p (.lst vs)) I (.cons rx .nil) ⟨a, vs, rfl, hq, fun l hl => ⟨l, rfl, hl, rfl⟩⟩) fun w s' ⟨z, H', I', rz, p, e1, hp, e2⟩ => ?_
    subst e1 e2
    have x2 : Ext H G (upd H p (.lst vs)) (up G p (.lst ds)) := .new hp
    exact ⟨.ref p, .ref p, _, _, I', rz, t p (hr.free hp), x2, hr.new hp ⟨vs, upd_same, r.ext hr x2⟩, by rw [VR]⟩
  · exact t.elim
/-! ### sorted, of plain data -/
theorem each_vr {K : Ml} {H : Hp} {G : DHp} : ∀ {ds : List D} {vs : List V} {us : List Value}, VRs K H G ds vs → Vals vs us → PySem.W.EachIs (fun u d => ∃ v, RelV v u ∧ VR K H G d v) us ds
  | [], _, _, h, r => by rw [h.nil_of] at r; cases r; exact .nil
  | d :: ds, _, _, h, r => by
    obtain ⟨v, vs, rfl, q, t⟩ := h.uncons
    cases r with
    | cons r1 r2 => exact .cons ⟨v, r1, q⟩ (each_vr t r2)
theorem each_back {K : Ml} {H : Hp} {G : DHp} : ∀ {us : List Value} {ds : List D}, PySem.W.EachIs (fun u d => ∃ v, RelV v u ∧ VR K H G d v) us ds → ∃ vs, Vals vs us ∧ VRs K H G ds vs
  | _, _, .nil => ⟨[], .nil, .nil⟩
  | _, _, .cons ⟨v, r, q⟩ t => by
    obtain ⟨vs, a, b⟩ := each_back t
    exact ⟨v :: vs, .cons r a, .cons q b⟩
theorem each_reads {pins : List (Addr × Obj)} {σ : L2.St} {H : Hp} {G : DHp} {s : Shared} (I : Inv X pins σ H s) : ∀ {ds : List D} {vs : List V} {us : List Value}, VRs X.ml H G ds vs → Vals vs us → plainDs ds = true → PySem.W.EachIs (fun u d => ∃ as, Reads s.heap u (py d) as) us ds
  | [], _, _, h, r, _ => by rw [h.nil_of] at r; cases r; exact .nil
  | d :: ds, _, _, h, r, p => by
    obtain ⟨v, vs, rfl, q, t⟩ := h.uncons
    rw [plainDs, Bool.and_eq_true] at p
    cases r with
    | cons r1 r2 => exact .cons (Dp.reads I _ _ _ (q.dp p.1) r1) (each_reads I t r2 p.2)
def srt (ds : List D) : List D := ds.mergeSort (PySem.W.dataLe false py)
theorem srt_len (ds : List D) : (srt ds).length = ds.length := List.length_mergeSort _
/-- a new list; it is tracked -/
def dSorted : DRn := d1 fun d G Q => match lsD d G with
  | some ds => (plainDs ds = true ∧ PySem.W.AllAlike (ds.map py) ∧ PySem.W.Sortable (ds.map py) ∧ ∀ d ∈ ds, (py d).depth ≤ 60) ∧ ∀ p, G p = none → Q (.ref p) (up G p (.lst (srt ds)))
  | none => False
theorem cd_sorted (hu : X.A.units + 64 < cLine) : CallD X (.builtin "sorted") dSorted := calld1 fun pins s σ H G x v d P I rx hr q1 t => by
  split at t
  · rename_i ds e
    obtain ⟨⟨p1, p2, p3, p4⟩, t⟩ := t
    obtain ⟨a, vs, rfl, hq, r⟩ := lsD_at hr q1 e
    cases (show v = Value.ref a from rx)
    obtain ⟨its, rv, pl, hz⟩ := I.list hq
    refine PySem.W.sorted_data (R := fun u d => ∃ v, RelV v u ∧ VR X.ml H G d v) (enc := py) (bs := ds) pl.isList (each_vr r rv) (each_reads I r rv p1) p2 p3 (by rw [← r.length]; exact hz) (fun b hb => by have := p4 b hb; omega) fun out ho eo => ?_
    obtain ⟨ws, rw', qs⟩ := each_back eo
    obtain ⟨ep, he'⟩ := PyProof.Rows.sortedAll_at s.heap its out.toArray
    have hp : H (s.heap.objs.size + 1) = none := I.hok.fresh (Nat.le_succ _)
    have x2 : Ext H G (upd H (s.heap.objs.size + 1) (.lst ws)) (up G (s.heap.objs.size + 1) (.lst (srt ds))) := .new hp
    have hlen : ws.length ≤ sizeLine := by rw [rw'.length, ho, ← r.length]; exact hz
    have I' : Inv X pins σ (upd H (s.heap.objs.size + 1) (.lst ws)) { s with heap := PyProof.Rows.sortedAll s.heap its (List.toArray out) } :=
      I.laid (t' := s.toks) (fun _ _ => PyProof.Rows.sortedAll_old) (Nat.le_succ _) ⟨hlen, out, ep, rw', he'⟩
    exact ⟨.ref _, .ref _, _, _, I', rfl, t _ (hr.free hp), x2, hr.new hp ⟨ws, upd_same, qs.ext hr x2⟩, by rw [VR]⟩
  · exact t.elim
/-! ### dict.get, dict.pop -/
def dGet2 : DRn := d3 fun x y z G Q => match dicN x G with
  | some kvs => (match y with
    | .nd .tup ks => (match D.key (.nd .tup ks) with
      | some k => k.depth ≤ 8 ∧ Q ((dval kvs k).getD z) G
      | none => False)
    | _ => False)
  | none => match dicK x G with
    | some kvs => (match y.kK with
      | some k => Q ((dval kvs k).getD z) G
      | none => False)
    | none => False
theorem md_get2 (hu : X.A.units + 64 < cLine) : MtD X "dict.get" dGet2 := calld3 fun pins s σ H G x y a v u b dx dy dz P I rx ry rz hr q1 q2 q3 t => by
  split at t
  · rename_i kvs e
    split at t
    · rename_i ks
      split at t
      · rename_i k ek
        obtain ⟨h8, t⟩ := t
        have ka := key_at q2 ek
        obtain ⟨c, ws, rfl, dn, vr⟩ := dicN_at hr q1 e
        obtain ⟨xs, es, ep, h1, h2, h3, h4, h5, h6, h7, h9, h10⟩ := DnAt.of I dn
        rw [VR] at q2
        obtain ⟨b', vs, rfl, hb, rb⟩ := q2
        cases (show v = Value.ref c from rx)
        cases (show u = Value.ref b' from ry)
        refine call_meetsIn PySem.F.slot_dict_get h4.typeIs PySem.F.entry_dict_get (PySem.F.args_dict_get_3 _ _ _) (meetsH_dict_get_default (nestedKind X.prog X.w) c b' h5 b) ⟨nk_room hu, k, xs, ⟨nested_is I ka rfl, h8⟩, h4, ?_⟩
        rcases entry_get (K := Unit) (k := k) h10 kvs H G X.ml h6 vr with ⟨e1, e2⟩ | ⟨d, w, p, e1, e2, rw', qw⟩
        · rw [e1] at t; rw [e2]
          exact opd_fin (I.tok _) rz hr q3 t
        · rw [e1] at t; rw [e2]
          exact opd_fin (I.tok _) rw' hr qw t
      · exact t.elim
    · exact t.elim
  · split at t
    · rename_i kvs e
      split at t
      · rename_i k ek
        obtain ⟨c, ws, rfl, rd, e1, vr⟩ := dicK_at hr q1 e
        cases (show v = Value.ref c from rx)
        have ex := kK_vr q2 ek
        subst ex
        refine d_get2 (by omega) I (.inl ⟨ws, k, rd, rfl, rfl⟩) ry rz fun w' s' I' rw' => ?_
        rcases dval_vr k e1 vr with ⟨e2, e3⟩ | ⟨d, w, e2, e3, qw⟩
        · rw [e2] at t; rw [e3] at rw'
          exact opd_fin I' rw' hr q3 t
        · rw [e2] at t; rw [e3] at rw'
          exact opd_fin I' rw' hr qw t
      · exact t.elim
    · exact t.elim
def dGet1 : DRn := d2 fun x y G Q => match dicN x G with
  | some kvs => (match y with
    | .nd .tup ks => (match D.key (.nd .tup ks) with
      | some k => k.depth ≤ 8 ∧ Q ((dval kvs k).getD .non) G
      | none => False)
    | _ => False)
  | none => match dicK x G with
    | some kvs => (match y.kK with
      | some k => Q ((dval kvs k).getD .non) G
      | none => False)
    | none => False
theorem md_get1 (hu : X.A.units + 64 < cLine) : MtD X "dict.get" dGet1 := calld2 fun pins s σ H G x y v u dx dy P I rx ry hr q1 q2 t => by
  split at t
  · rename_i kvs e
    split at t
    · rename_i ks
      split at t
      · rename_i k ek
        obtain ⟨h8, t⟩ := t
        have ka := key_at q2 ek
        obtain ⟨c, ws, rfl, dn, vr⟩ := dicN_at hr q1 e
        obtain ⟨xs, es, ep, h1, h2, h3, h4, h5, h6, h7, h9, h10⟩ := DnAt.of I dn
        rw [VR] at q2
        obtain ⟨b', vs, rfl, hb, rb⟩ := q2
        cases (show v = Value.ref c from rx)
        cases (show u = Value.ref b' from ry)
        refine call_meetsIn PySem.F.slot_dict_get h4.typeIs PySem.F.entry_dict_get (PySem.F.args_dict_get_2 _ _) (meetsH_dict_get (nestedKind X.prog X.w) c b' h5) ⟨nk_room hu, k, xs, ⟨nested_is I ka rfl, h8⟩, h4, ?_⟩
        rcases entry_get (K := Unit) (k := k) h10 kvs H G X.ml h6 vr with ⟨e1, e2⟩ | ⟨d, w, p, e1, e2, rw', qw⟩
        · rw [e1] at t; rw [e2]
          exact opd_fin (z := .non) (I.tok _) rfl hr (by show VR _ _ _ .non .non; rw [VR]) t
        · rw [e1] at t; rw [e2]
          exact opd_fin (I.tok _) rw' hr qw t
      · exact t.elim
    · exact t.elim
  · split at t
    · rename_i kvs e
      split at t
      · rename_i k ek
        obtain ⟨c, ws, rfl, rd, e1, vr⟩ := dicK_at hr q1 e
        cases (show v = Value.ref c from rx)
        have ex := kK_vr q2 ek
        subst ex
        refine d_get1 (by omega) I (.inl ⟨ws, k, rd, rfl, rfl⟩) ry fun w' s' I' rw' => ?_
        rcases dval_vr k e1 vr with ⟨e2, e3⟩ | ⟨d, w, e2, e3, qw⟩
        · rw [e2] at t; rw [e3] at rw'
          exact opd_fin I' rw' hr (by show VR _ _ _ .non .non; rw [VR]) t
        · rw [e2] at t; rw [e3] at rw'
          exact opd_fin I' rw' hr qw t
      · exact t.elim
    · exact t.elim
/-! ### an empty dict -/
def dNewN : DTE := fun _ G Q => ∀ p, G p = none → Q (.ref p) (up G p (.dN []))
def dNewK : DTE := fun _ G Q => ∀ p, G p = none → Q (.ref p) (up G p (.dK []))
theorem ped_newK {pos : Pos} : PED X (.Dict [] [] pos) dNewK := PE.impI pe_dnewK fun _ _ σ H Q _ ⟨η, G, P, hs, hr, t, k⟩ => fun p hp =>
  k (.ref p) _ (.ref p) _ (t p (hr.free hp)) (.new hp) (hr.new hp ⟨[], upd_same, rfl, .nil⟩) (by rw [VR])
theorem raw_empty {pins : List (Addr × Obj)} {σ : L2.St} {H : Hp} {s : Shared} (I : Inv X pins σ H s) : Inv X pins σ (upd H s.heap.objs.size (rawO s.heap.objs.size #[] 0)) { s with heap := s.heap.push { cls := .type "dict", data := .dict #[] } } := by
  have e := Heap.get?_push_size s.heap (o := { cls := .type "dict", data := .dict #[] }) rfl
  have hr : (s.heap.push { cls := .type "dict", data := .dict #[] }).DictRaw s.heap.objs.size #[] 0 := ⟨_, e, ⟨rfl, rfl, rfl⟩, rfl⟩
  exact I.laid (t' := s.toks) (fun _ _ q => Heap.get?_push_of_some _ q) (Nat.le_refl _) ⟨hr, ⟨_, e⟩, fun h1 h2 φ k => φ.at k⟩
theorem notSys {pins : List (Addr × Obj)} {σ : L2.St} {H : Hp} {s : Shared} (I : Inv X pins σ H s) : (s.heap.objs.size == sysModules) = false :=
  beq_eq_false_iff_ne.mpr (Ne.symm (Nat.ne_of_lt I.big))
theorem dnAt_empty {K : Ml} {H : Hp} {a : Addr} (h : H a = some (rawO a #[] 0)) (hs : (a == sysModules) = false) : DnAt K H a [] [] :=
  ⟨[], #[], 0, h, hs, rfl, rfl, List.nodup_nil, Nat.zero_le _, (fun _ hx => nomatch hx), .nil⟩
theorem ped_newN {pos : Pos} : PED X (.Dict [] [] pos) dNewN := ⟨fun pins s σ H Q I ⟨η, G, P, hs, hr, t, k⟩ => by
  have hp : H s.heap.objs.size = none := I.hok.fresh (Nat.le_refl _)
  exact wpAny_Dict_empty ⟨.ref s.heap.objs.size, _, raw_empty I, rfl, k _ _ _ _ (t _ (hr.free hp)) (.new hp) (hr.new hp ⟨[], dnAt_empty upd_same (notSys I), .nil⟩) (by rw [VR])⟩⟩
end
end DL
namespace DL
open PySem PySem.Spec PyProof.Rows L2

/-! ### a dict that stays, walked -/
/-- at d a dict with just the entries es stays -/
def RawAt (H : Hp) (d : Addr) (es : Array DictEntry) (ep : Nat) : Prop := (H d = some (rawO d es ep) ∨ ∃ o kvs, H d = some (.frz o (.dK kvs)) ∧ o.ExactDict ∧ o.data = .dict es ep) ∧ (d == sysModules) = false
section
variable {X : Cx} {pins : List (Addr × Obj)} {σ : L2.St} {H : Hp} {s : Shared} {d : Addr} {es : Array DictEntry} {ep : Nat}
theorem RawAt.raw (h : RawAt H d es ep) (I : Inv X pins σ H s) : s.heap.DictRaw d es ep := by
  rcases h.1 with h | ⟨o, kvs, h, hx, hd⟩
  · obtain ⟨φ, _, _⟩ := (show ObjOk X.prog X.w H s.heap d (rawO d es ep) from I.hok d _ h)
    exact φ
  · obtain ⟨hg, _⟩ := I.hok d _ h
    exact ⟨o, hg, hx, hd⟩
end
/-- the items of a walk over kv -/
def EntV (es : Array DictEntry) (kv : List (V × V)) : Prop := Paired (fun (p : V × V) (e : DictEntry) => RelV p.1 e.key ∧ RelV p.2 e.val) kv es.toList
theorem EntV.size {es : Array DictEntry} {kv : List (V × V)} (h : EntV es kv) : kv.length = es.size := by
  have := Paired.length h
  rw [Array.length_toList] at this
  exact this
theorem EntV.at {es : Array DictEntry} {kv : List (V × V)} (h : EntV es kv) {i : Nat} {p : V × V} (e : kv[i]? = some p) (hi : i < es.size) : RelV p.1 es[i].key ∧ RelV p.2 es[i].val := by
  obtain ⟨b, hb, r⟩ := paired_get h e
  rw [Array.getElem?_toList, Array.getElem?_eq_getElem hi] at hb
  cases hb
  exact r
def Itw (d : Addr) (es : Array DictEntry) (ep : Nat) (kv : List (V × V)) : It :=
  ⟨fun i H => RawAt H d es ep ∧ i < kv.length, fun i H x H' => ∃ T k v, kv[i]? = some (k, v) ∧ x = .ref T ∧ H T = none ∧ H' = upd H T (.tup [k, v]), fun i H => RawAt H d es ep ∧ kv.length ≤ i⟩
def Itwk (d : Addr) (es : Array DictEntry) (ep : Nat) (kv : List (V × V)) : It :=
  ⟨fun i H => RawAt H d es ep ∧ i < kv.length, fun i H x H' => H' = H ∧ ∃ v, kv[i]? = some (x, v), fun i H => RawAt H d es ep ∧ kv.length ≤ i⟩
def Itwv (d : Addr) (es : Array DictEntry) (ep : Nat) (kv : List (V × V)) : It :=
  ⟨fun i H => RawAt H d es ep ∧ i < kv.length, fun i H x H' => H' = H ∧ ∃ k, kv[i]? = some (k, x), fun i H => RawAt H d es ep ∧ kv.length ≤ i⟩
section
variable {P : Program} {w : World} {K : PySem.W.Frag} {tg : Expr} {d : Addr} {es : Array DictEntry} {ep : Nat} {kv : List (V × V)}
theorem turn_itw {elts : List Expr} {kk : Nat} {tpos : Pos} (it : Addr) (hv : EntV es kv) : Turn P w K (.Tuple elts kk tpos) (Itw d es ep kv) [it] it (fun n_i g_ => ∃ k_o v_o, IsItemIter g_ it d n_i es.size ep k_o v_o) where
  mem := by simp
  obj := fun n_i g_ sit c_ hcb => by
    have eq_ : c_ = it := by simpa using hcb
    subst eq_
    obtain ⟨k_o, v_o, eq_⟩ := sit
    exact ⟨_, eq_, fun vv zz => nomatch zz⟩
  keep := fun n_i g_ g' sit kp => let ⟨k_o, v_o, eq_⟩ := sit; ⟨k_o, v_o, kp it (by simp) _ eq_⟩
  item := by
    intro Y eP ew eK cal n_i pn s_a τ M Ex Iv young sit can
    subst eP ew eK
    obtain ⟨raw_, lt_⟩ := can
    have dr := raw_.raw Iv
    obtain ⟨k_o, v_o, hit_⟩ := sit
    have low : it < s_a.heap.objs.size := Heap.lt_size hit_
    have lt' : n_i < es.size := by rw [← hv.size]; exact lt_
    have at_i : kv[n_i]? = some kv[n_i] := List.getElem?_eq_getElem lt_
    obtain ⟨r1, r2⟩ := hv.at at_i lt'
    refine wpAny_pyNext_items_item_raw hit_ dr lt' fun g' out_ hT_ hz_ kept_ => ?_
    refine ⟨_, rfl, wpAny_letOwnedTupleGo_items (s := { s_a with heap := g' }) out_ fun g'' hit' same_ => ?_⟩
    have hT3 : g''.get? s_a.heap.objs.size = some { cls := .type "tuple", data := .seq #[es[n_i].key, es[n_i].val] } := (same_.2 _ (Nat.ne_of_gt low)).trans hT_
    have new_ : ObjOk Y.prog Y.w (upd M s_a.heap.objs.size (.tup [kv[n_i].1, kv[n_i].2])) g'' s_a.heap.objs.size (.tup [kv[n_i].1, kv[n_i].2]) :=
      ⟨by show 2 ≤ sizeLine; decide, [es[n_i].key, es[n_i].val], .cons r1 (.cons r2 .nil), ⟨_, hT3, rfl, _, rfl⟩⟩
    have Iw : Inv Y pn τ (upd M s_a.heap.objs.size (.tup [kv[n_i].1, kv[n_i].2])) { s_a with heap := g'' } :=
      Iv.turnedNew (t' := s_a.toks) (ch := [it]) (fun c_ o_b hcb eq_ => (same_.2 c_ (by simpa using hcb)).trans (kept_ c_ o_b (by simpa using hcb) eq_)) young (Nat.le_refl _) new_
    refine ⟨.ref s_a.heap.objs.size, _, Iw, rfl, ⟨_, kv[n_i].1, kv[n_i].2, at_i, rfl, Iv.hok.fresh (Nat.le_refl _), rfl⟩, ⟨es[n_i].key, es[n_i].val, hit'⟩, fun c_ hcb => ?_⟩
    have eq_ : c_ = it := by simpa using hcb
    rw [eq_, upd_ne (Nat.ne_of_lt low)]
    exact (young it (by simp)).1
  done := by
    intro Y eP ew eK cal n_i pn s_a τ M Ex Iv young sit can
    subst eP ew eK
    obtain ⟨raw_, lt_⟩ := can
    obtain ⟨p0, p1, p2, p3, p4, p5⟩ := young it (by simp)
    have dr := raw_.raw Iv
    obtain ⟨k_o, v_o, hit_⟩ := sit
    exact wpAny_pyNext_items_end_raw (Iv.ok.hd cal) hit_ dr (by rw [← hv.size]; exact lt_) fun g' but_ => ⟨rfl, Iv.turned (t' := s_a.toks) (fun c_ o_b hcb eq_ => but_ c_ o_b hcb eq_) p0 p1 p3 p4 p5⟩
  self := fun A_ n_i s_a Q_ Ex sit g_ => let ⟨_, _, eq_⟩ := sit; PySem.W.kcp_self eq_ g_
theorem turn_itwk (it : Addr) (hv : EntV es kv) : Turn P w K tg (Itwk d es ep kv) [it] it (fun n_i g_ => g_.IsKeyIter it d n_i es.size ep) where
  mem := by simp
  obj := fun n_i g_ sit c_ hcb => by
    have eq_ : c_ = it := by simpa using hcb
    subst eq_
    obtain ⟨o_i, eq_, cl_, dt_⟩ := sit
    exact ⟨o_i, eq_, fun vv zz => by rw [dt_] at zz; cases zz⟩
  keep := fun n_i g_ g' sit kp => sit.at fun o_i eq_ => kp it (by simp) o_i eq_
  item := by
    intro Y eP ew eK cal n_i pn s_a τ M Ex Iv young sit can
    subst eP ew eK
    obtain ⟨raw_, lt_⟩ := can
    obtain ⟨p0, p1, p2, p3, p4, p5⟩ := young it (by simp)
    have dr := raw_.raw Iv
    have lt' : n_i < es.size := by rw [← hv.size]; exact lt_
    have at_i : kv[n_i]? = some kv[n_i] := List.getElem?_eq_getElem lt_
    obtain ⟨r1, r2⟩ := hv.at at_i lt'
    refine wpAny_pyNext_keys_item_raw sit dr lt' fun g' sit' same_ => ?_
    have Iw : Inv Y pn τ M { s_a with heap := g' } := Iv.turned (t' := s_a.toks) (fun c_ o_b hcb eq_ => (same_.2 c_ hcb).trans eq_) p0 p1 p3 p4 p5
    obtain ⟨o_i, eq_, cl_, dt_⟩ := id sit'
    exact ⟨es[n_i].key, rfl, go_of (s := { s_a with heap := g' }) eq_ cl_ dt_ (by decide) ⟨kv[n_i].1, M, Iw, r1, ⟨rfl, _, at_i⟩, sit', fun c_ hcb => (young c_ hcb).1⟩⟩
  done := by
    intro Y eP ew eK cal n_i pn s_a τ M Ex Iv young sit can
    subst eP ew eK
    obtain ⟨raw_, lt_⟩ := can
    obtain ⟨p0, p1, p2, p3, p4, p5⟩ := young it (by simp)
    exact wpAny_pyNext_keys_end_raw (Iv.ok.hd cal) sit (raw_.raw Iv) (by rw [← hv.size]; exact lt_) fun g' but_ => ⟨rfl, Iv.turned (t' := s_a.toks) (fun c_ o_b hcb eq_ => but_ c_ o_b hcb eq_) p0 p1 p3 p4 p5⟩
  self := fun A_ n_i s_a Q_ Ex sit g_ => wpAny_pyIter_keyiter sit g_
theorem turn_itwv (it : Addr) (hv : EntV es kv) : Turn P w K tg (Itwv d es ep kv) [it] it (fun n_i g_ => g_.IsValIter it d n_i es.size ep) where
  mem := by simp
  obj := fun n_i g_ sit c_ hcb => by
    have eq_ : c_ = it := by simpa using hcb
    subst eq_
    obtain ⟨o_i, eq_, cl_, dt_⟩ := sit
    exact ⟨o_i, eq_, fun vv zz => by rw [dt_] at zz; cases zz⟩
  keep := fun n_i g_ g' sit kp => sit.at fun o_i eq_ => kp it (by simp) o_i eq_
  item := by
    intro Y eP ew eK cal n_i pn s_a τ M Ex Iv young sit can
    subst eP ew eK
    obtain ⟨raw_, lt_⟩ := can
    obtain ⟨p0, p1, p2, p3, p4, p5⟩ := young it (by simp)
    have dr := raw_.raw Iv
    have lt' : n_i < es.size := by rw [← hv.size]; exact lt_
    have at_i : kv[n_i]? = some kv[n_i] := List.getElem?_eq_getElem lt_
    obtain ⟨r1, r2⟩ := hv.at at_i lt'
    refine wpAny_pyNext_values_item_raw sit dr lt' fun g' sit' same_ => ?_
    have Iw : Inv Y pn τ M { s_a with heap := g' } := Iv.turned (t' := s_a.toks) (fun c_ o_b hcb eq_ => (same_.2 c_ hcb).trans eq_) p0 p1 p3 p4 p5
    obtain ⟨o_i, eq_, cl_, dt_⟩ := id sit'
    exact ⟨es[n_i].val, rfl, go_of (s := { s_a with heap := g' }) eq_ cl_ dt_ (by decide) ⟨kv[n_i].2, M, Iw, r2, ⟨rfl, _, at_i⟩, sit', fun c_ hcb => (young c_ hcb).1⟩⟩
  done := by
    intro Y eP ew eK cal n_i pn s_a τ M Ex Iv young sit can
    subst eP ew eK
    obtain ⟨raw_, lt_⟩ := can
    obtain ⟨p0, p1, p2, p3, p4, p5⟩ := young it (by simp)
    exact wpAny_pyNext_values_end_raw (Iv.ok.hd cal) sit (raw_.raw Iv) (by rw [← hv.size]; exact lt_) fun g' but_ => ⟨rfl, Iv.turned (t' := s_a.toks) (fun c_ o_b hcb eq_ => but_ c_ o_b hcb eq_) p0 p1 p3 p4 p5⟩
  self := fun A_ n_i s_a Q_ Ex sit g_ => wpAny_pyIter_valiter sit g_
end

/-! ### at the trees -/
/-- a key of either kind of dict, as a tree -/
def kD : Key → D
  | .inl i => .int i
  | .inr x => .str x
/-- keys and values of a dict that is changed no more -/
def dicP : D → Option (List (D × D))
  | .nd (.dN ks) ds => some ((ks.map nkD).zip ds)
  | .nd (.dK ks) ds => some ((ks.map kD).zip ds)
  | _ => none
theorem kD_vr {K : Ml} {H : Hp} {G : DHp} (k : Key) : VR K H G (kD k) (kV k) := by
  cases k with
  | inl i => show VR K H G (.int i) (.int i); rw [VR]
  | inr i => show VR K H G (.str i) (.str i); rw [VR]
/-- the walk's own pairs -/
def PairsR (K : Ml) (H : Hp) (G : DHp) (ps : List (D × D)) (kv : List (V × V)) : Prop := VRs K H G (ps.map (·.1)) (kv.map (·.1)) ∧ VRs K H G (ps.map (·.2)) (kv.map (·.2))
theorem kVs_vr {K : Ml} {H : Hp} {G : DHp} : ∀ ks : List Key, VRs K H G (ks.map kD) (ks.map kV)
  | [] => .nil
  | k :: ks => .cons (kD_vr k) (kVs_vr ks)
theorem mix_rel {P : Program} {w : World} {k : Key} {u : Value} (h : (mixKind P w).is k u = true) : RelV (kV k) u := relV_key (show keyIs k u = true from h)
section
variable {X : Cx}
/-- what is known of a dict that is changed no more -/
theorem dicP_at {pins : List (Addr × Obj)} {σ : L2.St} {H : Hp} {G : DHp} {s : Shared} {d : D} {v : V} {ps : List (D × D)} (I : Inv X pins σ H s) (hr : HR X.ml H G) (q : VR X.ml H G d v) (e : dicP d = some ps) :
    ∃ a es ep kv, v = .ref a ∧ EntV es kv ∧ PairsR X.ml H G ps kv ∧ ps.length = kv.length ∧ RawAt H a es ep ∧ ∀ H' G', Ext H G H' G' → RawAt H' a es ep := by
  cases d with
  | nd k ds =>
    cases k with
    | dN ks =>
      have e : some ((ks.map nkD).zip ds) = some ps := e
      cases e
      rw [VR] at q
      obtain ⟨a, vs, rfl, ⟨hn, dn⟩, r⟩ := q
      obtain ⟨xs, es, ep, h1, h2, h3, h4, h5, h6, h7, h8, h9⟩ := DnAt.of I dn
      have hl : ks.length = vs.length := by rw [← h6, List.length_map, h9.length, List.length_map]
      have hld : ks.length = ds.length := by rw [hl, r.length]
      have ent : ∀ (zs : List (NestedKey × Addr × Value)) (ws : List V), Vals ws (zs.map (·.2.2)) → Paired (fun (p : V × V) (e : DictEntry) => RelV p.1 e.key ∧ RelV p.2 e.val) ((zs.map fun z => V.ref z.2.1).zip ws) (zs.map (entryOfKey (nestedKind X.prog X.w))) := by
        intro zs
        induction zs with
        | nil => intro ws h; cases h; exact .nil
        | cons z zs ih =>
          intro ws h
          cases h with
          | cons r1 r2 => exact .cons ⟨rfl, r1⟩ (ih _ r2)
      refine ⟨a, es, ep, (xs.map fun z => V.ref z.2.1).zip vs, rfl, ?_, ⟨?_, ?_⟩, ?_, ⟨.inl h1, h5⟩, fun H' G' x => ⟨.inl (x.ex _ _ h1 hn).1, h5⟩⟩
      · unfold EntV
        rw [h3]
        exact ent xs vs h9
      · rw [fst_zip (by rw [List.length_map]; exact hld), fst_zip (by rw [List.length_map, ← hl, ← h6, List.length_map]), ← h6, List.map_map]
        have : ∀ zs : List (NestedKey × Addr × Value), (∀ x ∈ zs, KeyAt X.ml H x.1 (.ref x.2.1) ∧ x.1.depth ≤ 8) → VRs X.ml H G (zs.map (nkD ∘ (·.1))) (zs.map fun z => V.ref z.2.1) := by
          intro zs
          induction zs with
          | nil => intro _; exact .nil
          | cons z zs ih => intro h; exact .cons (nkD_vr (h z (by simp)).1) (ih fun x hx => h x (by simp [hx]))
        exact this xs h8
      · rw [List.map_snd_zip (by rw [List.length_map, hld] <;> exact Nat.le_refl _), List.map_snd_zip (by rw [List.length_map, ← hl, ← h6, List.length_map] <;> exact Nat.le_refl _)]
        exact r
      · rw [List.length_zip, List.length_zip, List.length_map, List.length_map, ← hld, ← hl, ← h6, List.length_map]
    | dK ks =>
      have e : some ((ks.map kD).zip ds) = some ps := e
      cases e
      rw [VR] at q
      obtain ⟨a, vs, rfl, ⟨hl, o, ho⟩, r⟩ := q
      obtain ⟨hs, hgd, hx, es, ep, ws, hdt, hsz, kv, hm⟩ := I.frzK ho
      have hld : ks.length = ds.length := by rw [hl, r.length]
      obtain ⟨o', es', ho', hx', hdt', _, pr, _⟩ := hm
      rw [hgd] at ho'; cases ho'
      rw [hdt] at hdt'; cases hdt'
      have ent : ∀ (qs : List (Key × V)) (us : List (Key × Value)) (en : List DictEntry), KV qs us → Pairs (mixKind X.prog X.w) en us → Paired (fun (p : V × V) (e : DictEntry) => RelV p.1 e.key ∧ RelV p.2 e.val) (qs.map fun p => (kV p.1, p.2)) en := by
        intro qs
        induction qs with
        | nil => intro us en h1 h2; cases h1; cases h2; exact .nil
        | cons z zs ih =>
          intro us en h1 h2
          cases h1 with
          | cons r1 r2 =>
            cases h2 with
            | cons p1 p2 p3 => exact .cons ⟨mix_rel (by rw [r1.1]; exact p1), by rw [p2]; exact r1.2⟩ (ih _ _ r2 p3)
      refine ⟨a, es, ep, (ks.zip vs).map fun p => (kV p.1, p.2), rfl, ?_, ⟨?_, ?_⟩, ?_, ⟨.inr ⟨o, _, ho, hx, hdt⟩, hs⟩, fun H' G' x => ⟨.inr ⟨o, _, (x.ex _ _ ho (hr.frz ho)).1, hx, hdt⟩, hs⟩⟩
      · unfold EntV
        exact ent _ _ _ kv pr
      · rw [fst_zip (by rw [List.length_map]; exact hld), List.map_map]
        have : ((ks.zip vs).map ((fun p : V × V => p.1) ∘ fun p : Key × V => (kV p.1, p.2))) = ks.map kV := by
          rw [show ((fun p : V × V => p.1) ∘ fun p : Key × V => (kV p.1, p.2)) = kV ∘ (·.1) from rfl, ← List.map_map, fst_zip hl]
        rw [this]
        exact kVs_vr ks
      · rw [List.map_snd_zip (by rw [List.length_map, hld] <;> exact Nat.le_refl _), List.map_map]
        rw [show ((fun p : V × V => p.2) ∘ fun p : Key × V => (kV p.1, p.2)) = (·.2) from rfl, List.map_snd_zip (by rw [hl] <;> exact Nat.le_refl _)]
        exact r
      · rw [List.length_zip, List.length_map, List.length_map, List.length_zip, ← hld, ← hl]
    | _ => cases e
  | _ => cases e
theorem PairsR.get {K : Ml} {H : Hp} {G : DHp} {ps : List (D × D)} {kv : List (V × V)} (h : PairsR K H G ps kv) (hl : ps.length = kv.length) {i : Nat} {p : D × D} (e : ps[i]? = some p) : ∃ k v, kv[i]? = some (k, v) ∧ VR K H G p.1 k ∧ VR K H G p.2 v := by
  have hi : i < kv.length := by rw [← hl]; exact (List.getElem?_eq_some_iff.mp e).1
  obtain ⟨k, e1, q1⟩ := h.1.get (i := i) (d := p.1) (by rw [List.getElem?_map, e]; rfl)
  obtain ⟨v, e2, q2⟩ := h.2.get (i := i) (d := p.2) (by rw [List.getElem?_map, e]; rfl)
  rw [List.getElem?_map, List.getElem?_eq_getElem hi] at e1 e2
  cases e1; cases e2
  exact ⟨_, _, List.getElem?_eq_getElem hi, q1, q2⟩
theorem PairsR.ext {K : Ml} {H H' : Hp} {G G' : DHp} {ps : List (D × D)} {kv : List (V × V)} (h : PairsR K H G ps kv) (hr : HR K H G) (x : Ext H G H' G') : PairsR K H' G' ps kv := ⟨h.1.ext hr x, h.2.ext hr x⟩
theorem Itw.itD {K : Ml} {H1 : Hp} {G1 : DHp} {d : Addr} {es : Array DictEntry} {ep : Nat} {kv : List (V × V)} {ps : List (D × D)} (hr1 : HR K H1 G1) (hp : PairsR K H1 G1 ps kv) (hl : ps.length = kv.length) (hra : ∀ H' G', Ext H1 G1 H' G' → RawAt H' d es ep) :
    ItD K H1 G1 (Itw d es ep kv) (ps.map fun p => .nd .tup [p.1, p.2]) always := by
  intro i H G x r o
  refine ⟨fun t e => ?_, fun l => ⟨hra _ _ x, by rw [← hl]; simpa using l⟩⟩
  rw [List.getElem?_map] at e
  cases ep' : ps[i]? with
  | none => rw [ep'] at e; cases e
  | some p =>
    rw [ep'] at e; cases e
    obtain ⟨k, v, e1, q1, q2⟩ := (hp.ext hr1 x).get hl ep'
    refine ⟨⟨hra _ _ x, by rw [← hl]; exact (List.getElem?_eq_some_iff.mp ep').1⟩, fun y H' ⟨T, k', v', e2, ey, hT, eH⟩ => ?_⟩
    rw [e1] at e2; cases e2
    subst ey eH
    have x2 : Ext H G (upd H T (.tup [k, v])) G := .laid hT
    refine ⟨x2, r.laid hT, ?_⟩
    rw [VR]
    exact ⟨T, _, rfl, .inl (.inl upd_same), .cons (q1.ext r x2) (.cons (q2.ext r x2) .nil)⟩
theorem Itwk.itD {K : Ml} {H1 : Hp} {G1 : DHp} {d : Addr} {es : Array DictEntry} {ep : Nat} {kv : List (V × V)} {ps : List (D × D)} (hr1 : HR K H1 G1) (hp : PairsR K H1 G1 ps kv) (hl : ps.length = kv.length) (hra : ∀ H' G', Ext H1 G1 H' G' → RawAt H' d es ep) :
    ItD K H1 G1 (Itwk d es ep kv) (ps.map (·.1)) always := by
  intro i H G x r o
  refine ⟨fun t e => ?_, fun l => ⟨hra _ _ x, by rw [← hl]; simpa using l⟩⟩
  rw [List.getElem?_map] at e
  cases ep' : ps[i]? with
  | none => rw [ep'] at e; cases e
  | some p =>
    rw [ep'] at e; cases e
    obtain ⟨k, v, e1, q1, q2⟩ := (hp.ext hr1 x).get hl ep'
    refine ⟨⟨hra _ _ x, by rw [← hl]; exact (List.getElem?_eq_some_iff.mp ep').1⟩, fun y H' ⟨eH, v', e2⟩ => ?_⟩
    rw [e1] at e2; cases e2
    subst eH
    exact ⟨.refl _ _, r, q1⟩
theorem Itwv.itD {K : Ml} {H1 : Hp} {G1 : DHp} {d : Addr} {es : Array DictEntry} {ep : Nat} {kv : List (V × V)} {ps : List (D × D)} (hr1 : HR K H1 G1) (hp : PairsR K H1 G1 ps kv) (hl : ps.length = kv.length) (hra : ∀ H' G', Ext H1 G1 H' G' → RawAt H' d es ep) :
    ItD K H1 G1 (Itwv d es ep kv) (ps.map (·.2)) always := by
  intro i H G x r o
  refine ⟨fun t e => ?_, fun l => ⟨hra _ _ x, by rw [← hl]; simpa using l⟩⟩
  rw [List.getElem?_map] at e
  cases ep' : ps[i]? with
  | none => rw [ep'] at e; cases e
  | some p =>
    rw [ep'] at e; cases e
    obtain ⟨k, v, e1, q1, q2⟩ := (hp.ext hr1 x).get hl ep'
    refine ⟨⟨hra _ _ x, by rw [← hl]; exact (List.getElem?_eq_some_iff.mp ep').1⟩, fun y H' ⟨eH, v', e2⟩ => ?_⟩
    rw [e1] at e2; cases e2
    subst eH
    exact ⟨.refl _ _, r, q2⟩
theorem dicP_ty {d : D} {ps : List (D × D)} (e : dicP d = some ps) (G : DHp) : tyD "dict" d G := by
  cases d with
  | nd k ds =>
    cases k with
    | dN ks => exact rfl
    | dK ks => exact rfl
    | _ => cases e
  | _ => cases e
def diItems (T : DTE) : DTI := fun η G R => T η G fun d G1 => match dicP d with
  | some ps => R (ps.map fun p => .nd .tup [p.1, p.2]) always G1
  | none => False
def diValues (T : DTE) : DTI := fun η G R => T η G fun d G1 => match dicP d with
  | some ps => R (ps.map (·.2)) always G1
  | none => False
def diKeys (T : DTE) : DTI := fun η G R => T η G fun d G1 => match dicP d with
  | some ps => R (ps.map (·.1)) always G1
  | none => False
theorem pid_items {e : Expr} {T : DTE} {elts : List Expr} {kk : Nat} {tpos apos cpos : Pos} (he : PED X e T) (hbase : attributeBase e "items" X.env (eval e X.env) = eval e X.env := by rfl) (hline : (apos.endLine == cpos.line) = true := by rfl) :
    PID X (.Tuple elts kk tpos) (.Call (.Attribute e "items" apos) [] [] cpos) (diItems T) := by
  refine ⟨fun pins s σ H R I ⟨η, G, P, hs, hr, t, k⟩ => ?_⟩
  refine wpAny_Call_method (T := "dict") (id := "dict.items") hbase rfl hline F.plainAttrs_dict F.slot_dict_items F.type_dict_items (thn (he.run pins s σ H (fun v H1 => ∃ d G1, (match dicP d with | some ps => P (ps.map fun p => .nd .tup [p.1, p.2]) always G1 | none => False) ∧ Ext H G H1 G1 ∧ HR X.ml H1 G1 ∧ VR X.ml H1 G1 d v) I ⟨η, G, _, hs, hr, t, fun d G1 v H1 p x r q => ⟨d, G1, p, x, r, q⟩⟩) fun u s1 ⟨x, H1, I1, rx, d, G1, p, x1, r1, q1⟩ => ?_)
  split at p
  · rename_i ps e
    obtain ⟨h1, h2⟩ := tyD_is I1 r1 q1 rx (dicP_ty e G1)
    obtain ⟨a, es, ep, kv, rfl, ent, pr, hl, ra, hra⟩ := dicP_at I1 r1 q1 e
    cases (show u = Value.ref a from rx)
    refine ⟨h1, h2, ?_⟩
    have hm := ra.raw I1
    have I2 : Inv X pins σ H1 { s1 with heap := s1.heap.push { cls := .type "dict_items", data := .fields #[.ref a] } } := I1.kept (t' := s1.toks) fun b ob q => Heap.get?_push_of_some _ q
    have fin : wpAny (model X.prog X.w) X.A (pyIter (.ref s1.heap.objs.size)) (PIE X pins σ (.Tuple elts kk tpos) R) X.xe { s1 with heap := s1.heap.push { cls := .type "dict_items", data := .fields #[.ref a] } } := by
      refine wpAny_pyIter_items_raw (d := a) ⟨_, Heap.get?_push_size _ rfl, rfl, rfl⟩ (hm.at fun o q => Heap.get?_push_of_some _ q) (pi_one (tk := s1.toks) I2 _ (turn_itw _ ent) ⟨.none, .none, ?_⟩ (k _ _ _ _ _ p x1 r1 (Itw.itD r1 pr hl hra)))
      exact Heap.get?_push_size _ rfl
    show wpAny _ _ (callWith cpos (.builtin "dict.items") [.ref a] [] []) _ X.xe s1
    exact method_meetsIn F.slot_dict_items F.entry_dict_items rfl (PySem.evalArgs_none ⟨rfl, h1, F.args_dict_items_1 _, _, meets_dict_items_raw a ra.2, ⟨es, ep, hm⟩, fin⟩)
  · exact p.elim
theorem pid_values {tg e : Expr} {T : DTE} {apos cpos : Pos} (he : PED X e T) (hbase : attributeBase e "values" X.env (eval e X.env) = eval e X.env := by rfl) (hline : (apos.endLine == cpos.line) = true := by rfl) :
    PID X tg (.Call (.Attribute e "values" apos) [] [] cpos) (diValues T) := by
  refine ⟨fun pins s σ H R I ⟨η, G, P, hs, hr, t, k⟩ => ?_⟩
  refine wpAny_Call_method (T := "dict") (id := "dict.values") hbase rfl hline F.plainAttrs_dict F.slot_dict_values F.type_dict_values (thn (he.run pins s σ H (fun v H1 => ∃ d G1, (match dicP d with | some ps => P (ps.map (·.2)) always G1 | none => False) ∧ Ext H G H1 G1 ∧ HR X.ml H1 G1 ∧ VR X.ml H1 G1 d v) I ⟨η, G, _, hs, hr, t, fun d G1 v H1 p x r q => ⟨d, G1, p, x, r, q⟩⟩) fun u s1 ⟨x, H1, I1, rx, d, G1, p, x1, r1, q1⟩ => ?_)
  split at p
  · rename_i ps e
    obtain ⟨h1, h2⟩ := tyD_is I1 r1 q1 rx (dicP_ty e G1)
    obtain ⟨a, es, ep, kv, rfl, ent, pr, hl, ra, hra⟩ := dicP_at I1 r1 q1 e
    cases (show u = Value.ref a from rx)
    refine ⟨h1, h2, ?_⟩
    have hm := ra.raw I1
    have I2 : Inv X pins σ H1 { s1 with heap := s1.heap.push { cls := .type "dict_values", data := .fields #[.ref a] } } := I1.kept (t' := s1.toks) fun b ob q => Heap.get?_push_of_some _ q
    have fin : wpAny (model X.prog X.w) X.A (pyIter (.ref s1.heap.objs.size)) (PIE X pins σ tg R) X.xe { s1 with heap := s1.heap.push { cls := .type "dict_values", data := .fields #[.ref a] } } := by
      refine wpAny_pyIter_values_raw (d := a) ⟨_, Heap.get?_push_size _ rfl, rfl, rfl⟩ (hm.at fun o q => Heap.get?_push_of_some _ q) (pi_one (tk := s1.toks) I2 _ (turn_itwv _ ent) ⟨_, Heap.get?_push_size _ rfl, rfl, rfl⟩ (k _ _ _ _ _ p x1 r1 (Itwv.itD r1 pr hl hra)))
    show wpAny _ _ (callWith cpos (.builtin "dict.values") [.ref a] [] []) _ X.xe s1
    exact method_meetsIn F.slot_dict_values F.entry_dict_values rfl (PySem.evalArgs_none ⟨rfl, h1, F.args_dict_values_1 _, _, meets_dict_values_raw a ra.2, ⟨es, ep, hm⟩, fin⟩)
  · exact p.elim
theorem pid_keys {tg e : Expr} {T : DTE} (he : PED X e T) : PID X tg e (diKeys T) := by
  refine ⟨fun pins s σ H R I ⟨η, G, P, hs, hr, t, k⟩ => ?_⟩
  refine thn (he.run pins s σ H (fun v H1 => ∃ d G1, (match dicP d with | some ps => P (ps.map (·.1)) always G1 | none => False) ∧ Ext H G H1 G1 ∧ HR X.ml H1 G1 ∧ VR X.ml H1 G1 d v) I ⟨η, G, _, hs, hr, t, fun d G1 v H1 p x r q => ⟨d, G1, p, x, r, q⟩⟩) fun u s1 ⟨x, H1, I1, rx, d, G1, p, x1, r1, q1⟩ => ?_
  split at p
  · rename_i ps e
    obtain ⟨a, es, ep, kv, rfl, ent, pr, hl, ra, hra⟩ := dicP_at I1 r1 q1 e
    cases (show u = Value.ref a from rx)
    exact wpAny_pyIter_dict_raw ra.2 (ra.raw I1) (pi_one (tk := s1.toks) I1 _ (turn_itwk _ ent) ⟨_, Heap.get?_push_size _ rfl, rfl, rfl⟩ (k _ _ _ _ _ p x1 r1 (Itwk.itD r1 pr hl hra)))
  · exact p.elim
/-! ### list(d), sorted: by the keys -/
end
end DL
namespace DL
open PySem PySem.Spec PyProof.Rows L2

/-! ### dict comprehensions, whatever the keys are -/
/-- a store of the dict at D by a comprehension -/
def StOk (Y : Cx) (St : Addr → V → V → Hp → (Hp → Prop) → Prop) : Prop := ∀ (D : Addr) (pins : List (Addr × Obj)) (σ : L2.St) (H : Hp) (s : Shared) (y z : V) (u r : Value) (Q : Hp → Prop) (E : Value → Shared → Prop), Inv Y pins σ H s → RelV y u → RelV z r → St D y z H Q →
  wpAny (model Y.prog Y.w) Y.A (dictSet D u r) (fun _ s' => ∃ H', Inv Y pins σ H' s' ∧ Q H') E s
section
variable {X : Cx}
def tDcG (o0 : Addr → HO) (St : Addr → V → V → Hp → (Hp → Prop) → Prop) (wi : TI) (g : TG) (tt : TT) (tk tv : TE) (vs : List Nat) : TE := fun σ H Q => wi σ H fun Jt M1 => ∀ D, M1 D = none → (D == sysModules) = false → ∃ Wi : Nat → Nat → Hp → Prop, (∃ n_m, Wi 0 n_m (upd M1 D (o0 D))) ∧ ∀ n_i n_m H, Wi n_i n_m H →
  (Jt.stop n_i H ∧ Q (.ref D) H) ∨ (Jt.go n_i H ∧ ∃ Nq : Hp → Prop, (∀ M', Nq M' → ∃ n_k, n_k < n_m ∧ Wi (n_i + 1) n_k M') ∧ ∀ v_x M', Jt.yld n_i H v_x M' → g v_x (wipe σ vs) M' fun τ M2 => wipe τ vs = wipe σ vs ∧ tt τ M2 fun ok_ M3 =>
    if ok_ = true then tk τ M3 fun ky M4 => tv τ M4 fun vz M5 => St D ky vz M5 Nq else Nq M3)
theorem dcG_core {pins : List (Addr × Obj)} {s : Shared} {σ : L2.St} {H : Hp} {Q : VK} {kx vx tg iter : Expr} {ifs : List Expr} {scope : Scope} {own : List (Str × Nat)} {pos pos' : Pos} {o0 : Addr → HO} {St : Addr → V → V → Hp → (Hp → Prop) → Prop} {tw : TI} {tg_ : TG} {tts : TT} {tkx tvx : TE} {use : Option (Value → Sem Unit)} {Qe : Value → Shared → Prop}
    (hc : X.calm = true) (hN : X.N.Nodup) (I : Inv X pins σ H s) (hi : PI X tg iter tw) (hbk : BlkOk X.N X.env.scope scope own)
    (hpg : ∀ (s : Shared) (H : Hp) (Cc : Addr) (cs_ : List (Str × Addr)) (ws : List Addr), PG (X.blk s H scope (compEnvC scope cs_ Cc X.env) ws) tg tg_) (hpt : ∀ (s : Shared) (H : Hp) (Cc : Addr) (cs_ : List (Str × Addr)) (ws : List Addr), PTs (X.blk s H scope (compEnvC scope cs_ Cc X.env) ws) ifs tts)
    (hpk : ∀ (s : Shared) (H : Hp) (Cc : Addr) (cs_ : List (Str × Addr)) (ws : List Addr), PE (X.blk s H scope (compEnvC scope cs_ Cc X.env) ws) kx tkx)
    (hpv : ∀ (s : Shared) (H : Hp) (Cc : Addr) (cs_ : List (Str × Addr)) (ws : List Addr), PE (X.blk s H scope (compEnvC scope cs_ Cc X.env) ws) vx tvx) (hfs : ∀ x, foldedSetIterable iter X.env x = pure x)
    (hnew : ∀ pins σ H s, Inv X pins σ H s → Inv X pins σ (upd H s.heap.objs.size (o0 s.heap.objs.size)) { s with heap := s.heap.push { cls := .type "dict", data := .dict #[] } }) (hst : ∀ (s : Shared) (H : Hp) (cenv : Env) (ws : List Addr), StOk (X.blk s H scope cenv ws) St)
    (h : tDcG o0 St tw tg_ tts tkx tvx (own.map (·.2)) σ H Q)
    (hend : ∀ Dd Cc s' n_m H', Inv X pins σ H' s' → Q (.ref Dd) H' → s'.heap.Ns Cc n_m → FpOk X pins H' Cc → compPost (model X.prog X.w) X.A X.xe use Qe (.ref Dd) Cc (.ok .next) s') :
    wpAny (model X.prog X.w) X.A (comprehension (.DictComp kx vx [⟨tg, iter, ifs, 0⟩] scope pos) scope X.env pos' newDict false (eval iter X.env) use) Qe X.xe s := by
  have hfr : ∀ y ∈ scope.names, y.2 = .free → ∃ c, X.env.cells.lookup y.1 = some c := fun y hy e => by
    rcases hbk.free y hy e with k | k
    · exact I.ok.has _ (.inl k)
    · exact I.ok.has _ (.inr k)
  refine wpAny_comprehension_free (use := use) rfl hfs (closure_ok hfr) hbk.kind (fun y hy e => by rw [hbk.uniq y hy, e])
    (thn (hi.run pins s σ H _ I h) fun xv1 t1 hx1 => thn hx1 fun iv1 t2 hh2 => ?_)
  obtain ⟨ia, ws, kd, Jt, M2, e, J2, Tu, u2, g2, q⟩ := hh2
  subst e
  refine wpAny_newObj_type
    (newEnv_comp ?_)
  generalize hd : t2.heap.objs.size = Dd
  have dn : M2 Dd = none := J2.hok.fresh (Nat.le_of_eq hd)
  obtain ⟨Wi, ⟨l0, z0⟩, trn⟩ := q Dd dn (by rw [← hd]; exact notSys J2)
  -- the new list
  generalize ht3 : ({ t2 with heap := t2.heap.push { cls := .type "dict", data := .dict #[] } } : Shared) = t3
  have J3 : Inv X pins σ (upd M2 Dd (o0 Dd)) t3 := by
    rw [← ht3]
    rw [← hd]
    exact hnew pins σ M2 t2 J2
  have h3 : t3.heap = t2.heap.push { cls := .type "dict", data := .dict #[] } := by rw [← ht3]
  have young : ∀ b ∈ ws, b < t2.heap.objs.size := fun b hb => by
    obtain ⟨o, e, _⟩ := Tu.obj _ _ u2 b hb
    exact Heap.lt_size e
  have g3 : ∀ b ∈ ws, FpOk X pins (upd M2 Dd (o0 Dd)) b ∧ b < t3.heap.objs.size := fun b hb => by
    have hlt := young b hb
    refine ⟨⟨?_, (g2 b hb).2⟩, by rw [h3, Heap.size_push]; exact Nat.lt_succ_of_lt hlt⟩
    rw [upd_ne (by rw [← hd]; exact Nat.ne_of_lt hlt)]
    exact (g2 b hb).1
  have u3 : kd 0 t3.heap := Tu.keep _ _ _ u2 fun b _ o e => by rw [h3]; exact Heap.get?_push_of_some _ e
  have J4 := block_start J3 hbk hN g3
  have pa1 := hpg t3 (upd M2 Dd (o0 Dd)) t3.heap.objs.size (cellsFrom (t3.heap.objs.size + 1) scope.names (cloFrom X.env.cells scope.names [])) ws
  have pa2 := hpt t3 (upd M2 Dd (o0 Dd)) t3.heap.objs.size (cellsFrom (t3.heap.objs.size + 1) scope.names (cloFrom X.env.cells scope.names [])) ws
  have pa3 := hpk t3 (upd M2 Dd (o0 Dd)) t3.heap.objs.size (cellsFrom (t3.heap.objs.size + 1) scope.names (cloFrom X.env.cells scope.names [])) ws
  have pa4 := hpv t3 (upd M2 Dd (o0 Dd)) t3.heap.objs.size (cellsFrom (t3.heap.objs.size + 1) scope.names (cloFrom X.env.cells scope.names [])) ws
  show codeAny _ _ (.compStart (.DictComp kx vx [⟨tg, iter, ifs, 0⟩] scope pos) 0 (.ref ia) (.ref Dd) (compEnvC scope (cellsFrom (t3.heap.objs.size + 1) scope.names (cloFrom X.env.cells scope.names [])) t3.heap.objs.size X.env)) (compPost (model X.prog X.w) X.A X.xe use Qe (.ref Dd) t3.heap.objs.size) { t3 with heap := pushCells (t3.heap.push { cls := .type "dict", data := .dict #[] }) scope.names }
  have gone : ∀ b ∈ ws, (upd M2 Dd (o0 Dd)) b = none := fun b hb => (g3 b hb).1.1
  generalize hcv : compEnvC scope (cellsFrom (t3.heap.objs.size + 1) scope.names (cloFrom X.env.cells scope.names [])) t3.heap.objs.size X.env = cv at J4 pa1 pa2 pa3 pa4 ⊢
  have cl_ : cv.locals = t3.heap.objs.size := by subst hcv; rfl
  generalize hM3 : upd M2 Dd (o0 Dd) = M3 at J3 J4 pa1 pa2 pa3 pa4 z0 gone g3
  generalize ht4 : ({ t3 with heap := pushCells (t3.heap.push { cls := .type "dict", data := .dict #[] }) scope.names } : Shared) = t4 at J4 ⊢
  have u4 : kd 0 t4.heap := Tu.keep _ _ _ u3 fun b _ o e => by rw [← ht4]; exact pushCells_keeps _ _ _ _ (Heap.get?_push_of_some _ e)
  have calm_ : ∀ {σ' : L2.St} {H' : Hp} {s' : Shared}, Inv (X.blk t3 M3 scope cv ws) [] σ' H' s' → (∀ b ∈ ws, H' b = none) → ∀ b ∈ ws, FpOk (X.blk t3 M3 scope cv ws) [] H' b := fun {σ' H' s'} J' hn b hb =>
    ⟨hn b hb, (J'.ok.exf b hb).1, J'.ok.exfs b hb, .inl hb, fun x c e => (J'.ok.exf b hb).2 x c e, fun p hp => absurd (show p ∈ ([] : List (Addr × Obj)) ++ [] from hp) (by simp)⟩
  have go_ : codeAny (model X.prog X.w) X.A (.compLoop (.DictComp kx vx [⟨tg, iter, ifs, 0⟩] scope pos) 0 (.ref ia) (.ref Dd) cv) (compPost (model X.prog X.w) X.A X.xe use Qe (.ref Dd) t3.heap.objs.size) t4 := by
    refine compLoop_anyD (fun n s' => ∃ n_i H', Inv (X.blk t3 M3 scope cv ws) [] (wipe σ (own.map (·.2))) H' s' ∧ kd n_i s'.heap ∧ (∀ b ∈ ws, H' b = none) ∧ Wi n_i n H') ?_ l0 ⟨0, M3, J4, u4, gone, z0⟩
    rintro n t5 ⟨n_i, M5, J5, u5, k5, z5⟩
    rcases trn n_i n M5 z5 with ⟨ends, q_⟩ | ⟨go, Nx, hnx, stp⟩
    · have e1 := Tu.done (X.blk t3 M3 scope cv ws) rfl rfl rfl hc n_i [] t5 _ M5 (fun _ _ => False) J5 (calm_ J5 k5) u5 ends
      refine thnF e1 fun r t6 ⟨hr, J6⟩ => ?_
      subst hr
      -- back in the def's context
      have J7 : Inv X pins σ M5 t6 := J3.call' (ch := ws) J6.os J6.base J6.hok J6.bare fun b hb => ⟨(g3 b hb).1.2.2.2.1, (g3 b hb).1.2.1, (g3 b hb).1.2.2.2.2.1, (g3 b hb).1.2.2.2.2.2⟩
      have cN : M5 t3.heap.objs.size = none := by
        have z : M5 cv.locals = none := J6.free
        rw [cl_] at z
        exact z
      obtain ⟨n_m, hn, _⟩ := J6.loc
      have hn : t6.heap.Ns cv.locals n_m := hn
      rw [cl_] at hn
      exact hend Dd t3.heap.objs.size t6 n_m M5 J7 q_ hn (J3.fpOk (Nat.le_refl _) cN)
    · have e2 := Tu.item (X.blk t3 M3 scope cv ws) rfl rfl rfl hc n_i [] t5 _ M5 (fun _ _ => False) J5 (calm_ J5 k5) u5 go
      refine thnF e2 fun r t6 ⟨u, hr, hh6⟩ => ?_
      subst hr
      refine thnF hh6 fun _ t7 ⟨x, M7, J7, r_7, y7, u7, k7⟩ => ?_
      have J7' := J7.pinned (calm_ J7 k7) (Tu.obj _ _ u7)
      refine thnF (pa1.run _ t7 _ M7 x u _ J7' r_7 (stp x M7 y7)) fun _ t8 ⟨σ8, M8, J8, hw8, p8⟩ => ?_
      refine thnF (pa2.run _ t8 σ8 M8 _ J8 p8) fun b t9 ⟨M9, J9, p9⟩ => ?_
      -- the turn's end
      have over : ∀ {s' : Shared} {H' : Hp}, Inv (X.blk t3 M3 scope cv ws) ([] ++ pinsAt ws t7.heap) σ8 H' s' → Nx H' → ∃ n_m, n_m < n ∧ ∃ n_i H', Inv (X.blk t3 M3 scope cv ws) [] (wipe σ (own.map (·.2))) H' s' ∧ kd n_i s'.heap ∧ (∀ b ∈ ws, H' b = none) ∧ Wi n_i n_m H' := fun {s' H'} J' nx => by
        obtain ⟨m', hm_, z'⟩ := hnx H' nx
        have pin1 : ∀ b ∈ ws, ∀ o, t7.heap.get? b = some o → s'.heap.get? b = some o ∧ H' b = none := fun b hb o e =>
          let z := J'.pin (b, o) (List.mem_append_right _ (List.mem_append_right _ (mem_pinsAt hb e)))
          ⟨z.1, z.2.1⟩
        have hlen8 : (wipe σ (own.map (·.2))).length = σ8.length := by
          rw [← hw8, wipe_length]
        refine ⟨m', hm_, n_i + 1, H', (J'.unpinned (pins := [])).weak hlen8 (fun j v e => ?_), Tu.keep _ _ _ u7 fun b hb o e => (pin1 b hb o e).1, fun b hb => ?_, z'⟩
        · rw [← hw8] at e
          exact (wipe_some e).1
        · obtain ⟨o, e, _⟩ := Tu.obj _ _ u7 b hb
          exact (pin1 b hb o e).2
      cases b with
      | false =>
        simp only [Bool.false_eq_true, if_false] at p9 ⊢
        exact over J9 p9
      | true =>
        simp only [if_true] at p9 ⊢
        refine thnF (pa3.run _ t9 σ8 M9 _ J9 p9) fun z ta ⟨k_y, Ma, Ja, ra, p10⟩ => ?_
        refine thnF (pa4.run _ ta σ8 Ma _ Ja p10) fun zz tb ⟨v_y, Mb, Jb, rb, nx⟩ => ?_
        exact thnF (hst t3 M3 cv ws Dd _ _ _ _ _ _ _ _ _ (fun _ _ => False) Jb ra rb nx) fun _ tc ⟨Mc, Jc, nx12⟩ => over Jc nx12
  exact codeAny_compStart_dict go_ (Tu.self X.A 0 _ _ _ u4 go_)
/-- as a value -/
theorem pe_dcG {o0 : Addr → HO} {St : Addr → V → V → Hp → (Hp → Prop) → Prop} {kx vx tg iter : Expr} {ifs : List Expr} {scope : Scope} {own : List (Str × Nat)} {pos : Pos} {tw : TI} {tg_ : TG} {tts : TT} {tkx tvx : TE} (hc : X.calm = true) (hN : X.N.Nodup) (hi : PI X tg iter tw) (hbk : BlkOk X.N X.env.scope scope own)
    (hnew : ∀ pins σ H s, Inv X pins σ H s → Inv X pins σ (upd H s.heap.objs.size (o0 s.heap.objs.size)) { s with heap := s.heap.push { cls := .type "dict", data := .dict #[] } }) (hst : ∀ (s : Shared) (H : Hp) (cenv : Env) (ws : List Addr), StOk (X.blk s H scope cenv ws) St)
    (hpg : ∀ (s : Shared) (H : Hp) (Cc : Addr) (cs_ : List (Str × Addr)) (ws : List Addr), PG (X.blk s H scope (compEnvC scope cs_ Cc X.env) ws) tg tg_) (hpt : ∀ (s : Shared) (H : Hp) (Cc : Addr) (cs_ : List (Str × Addr)) (ws : List Addr), PTs (X.blk s H scope (compEnvC scope cs_ Cc X.env) ws) ifs tts)
    (hpk : ∀ (s : Shared) (H : Hp) (Cc : Addr) (cs_ : List (Str × Addr)) (ws : List Addr), PE (X.blk s H scope (compEnvC scope cs_ Cc X.env) ws) kx tkx)
    (hpv : ∀ (s : Shared) (H : Hp) (Cc : Addr) (cs_ : List (Str × Addr)) (ws : List Addr), PE (X.blk s H scope (compEnvC scope cs_ Cc X.env) ws) vx tvx) (hfs : ∀ x, foldedSetIterable iter X.env x = pure x := by intro _; rfl) :
    PE X (.DictComp kx vx [⟨tg, iter, ifs, 0⟩] scope pos) (tDcG o0 St tw tg_ tts tkx tvx (own.map (·.2))) := by
  refine ⟨fun pins s σ H Q I h => ?_⟩
  rw [arm_eval_DictComp]
  refine dcG_core hc hN I hi hbk hpg hpt hpk hpv hfs hnew hst h fun Dd Cc s' n_m H' J' q hn f => ⟨n_m, hn, fun h'' sb => ?_⟩
  obtain ⟨f0, f1, g2, g3, f4, f5⟩ := f
  exact ⟨.ref Dd, H', J'.turned (t' := s'.toks) (fun b o hb e => (sb.2 b hb).trans e) f0 f1 g3 f4 f5, rfl, q⟩
/-- the store, at the trees -/
def stD (K : Ml) : Addr → V → V → Hp → (Hp → Prop) → Prop := fun D y z H Q => liftSet K dSet (.ref D) y z H Q ∧ ∀ xs, H D ≠ some (.lst xs)
theorem stD_ok {Y : Cx} (hu : Y.A.units + 64 < cLine) : StOk Y (stD Y.ml) := by
  intro a pins σ H s y z u r Q E I ry rz ⟨⟨do_, di, dv, G, P, hr, q1, q2, q3, t, k⟩, nl⟩
  cases do_ with
  | nd _ _ =>
    rw [VR] at q1
    exact t.elim
  | ref b =>
    rw [VR] at q1
    cases q1
    cases hG : G a with
    | none =>
      have : False := by simpa [dSet, hG] using t
      exact this.elim
    | some ob =>
      cases ob with
      | ins C fs =>
        have : False := by simpa [dSet, hG] using t
        exact this.elim
      | lst ds =>
        obtain ⟨vs, hv, _⟩ := hr a _ hG
        exact (nl vs hv).elim
      | dK kvs =>
        cases ek : di.kK with
        | none =>
          have : False := by simpa [dSet, hG, ek] using t
          exact this.elim
        | some kk =>
          have t : kvs.length < sizeLine ∧ P (up G a (.dK (dput kvs kk dv))) := by simpa [dSet, hG, ek] using t
          obtain ⟨ws, hw, hks, r'⟩ := hr a _ hG
          have e := kK_vr q2 ek
          subst e
          have x : Ext H G (upd H a (.dK (putK ws kk z))) (up G a (.dK (dput kvs kk dv))) := .write hG
          obtain ⟨p1, p2⟩ := put_vr kk q3 hks r'
          have hl : ws.length < sizeLine := by
            have := congrArg List.length hks
            rw [List.length_map, List.length_map] at this
            rw [this]; exact t.1
          exact d_dictSet I hw hl ry rz fun s' I' => ⟨_, I', k _ _ t.2 x (hr.write hG ⟨_, upd_same, p1, p2.ext hr x⟩)⟩
      | dN kvs =>
        cases di with
        | nd kd ks =>
          cases kd with
          | tup =>
            cases ek : D.key (.nd .tup ks) with
            | none =>
              have : False := by simpa [dSet, hG, ek] using t
              exact this.elim
            | some kk =>
              have t : (kk.depth ≤ 8 ∧ kvs.length < sizeLine) ∧ P (up G a (.dN (dput kvs kk dv))) := by simpa [dSet, hG, ek] using t
              obtain ⟨⟨h8, hl⟩, t⟩ := t
              have ka := key_at q2 ek
              rw [VR] at q2
              obtain ⟨b, vs, rfl, hb, rb⟩ := q2
              cases (show u = Value.ref b from ry)
              obtain ⟨ws, dn, vr⟩ := hr a _ hG
              obtain ⟨xs, es, ep, h1, h2, h3, h4, h5, h6, h7, h9, h10⟩ := DnAt.of I dn
              refine wpAny_dictSet_heap (hsz := by have := congrArg List.length h6; rw [List.length_map] at this; rw [this]; exact h7) (show (nestedKind Y.prog Y.w).room Y.A by show Y.A.units + 8 < cLine; omega) ⟨nested_is I ka rfl, h8⟩ h4 fun h' hm' hs => ?_
              obtain ⟨H', I', x, r'⟩ := dn_put (t' := s.toks + (nestedKind Y.prog Y.w).draws kk) I hr hG h1 h5 h4 h6 h9 h10 vr ka h8 q3 rz hl hm' hs
              exact ⟨H', I', k _ _ t x r'⟩
          | _ =>
            have : False := by simpa [dSet, hG] using t
            exact this.elim
        | _ =>
          have : False := by simpa [dSet, hG] using t
          exact this.elim
  | _ => exact t.elim
/-- {k: v for tg in iter if ..}: a tracked dict -/
def dDc (o : DO) (wi : DTI) (g : DTG) (tt : DTT) (tk tv : DTE) (own : List Nat) : DTE := fun η G Q => wi η G fun ds ok G1 => ∀ p, G1 p = none → ∃ W : Nat → DHp → Prop, W 0 (up G1 p o) ∧ (∀ i G, W i G → ok G ∧ ∀ xs, G p ≠ some (.lst xs)) ∧
  (∀ i d G, ds[i]? = some d → W i G → g d (wipeD η own) G fun η2 G2 => tt η2 G2 fun b G3 => if b = true then tk η2 G3 fun y G4 => tv η2 G4 fun z G5 => (∀ xs, G5 p ≠ some (.lst xs)) ∧ dSet (.ref p) y z G5 (W (i + 1)) else W (i + 1) G3) ∧
  ∀ G, W ds.length G → Q (.ref p) G
def o0K : Addr → HO := fun _ => .dK []
def o0N : Addr → HO := fun a => rawO a #[] 0
theorem dc_lift {K : Ml} {o0 : Addr → HO} {o : DO} {wi : DTI} {g : DTG} {tt : DTT} {tk tv : DTE} {own is : List Nat} {σ : L2.St} {H : Hp} {Q : VK} (hsub : ∀ i ∈ is, i ∈ own) (hor : ∀ H G D, H D = some (o0 D) → (D == sysModules) = false → OR K H G D o) (hnl : ∀ H G D ob, OR K H G D ob → (∀ ds, ob ≠ .lst ds) → ∀ xs, H D ≠ some (.lst xs))
    (h : liftE K (dDc o wi g tt tk tv own) σ H Q) : tDcG o0 (stD K) (liftI K wi) (liftG K is g) (liftT K tt) (liftE K tk) (liftE K tv) own σ H Q := by
  obtain ⟨η, G, P, hs, hr, t, k⟩ := h
  refine ⟨η, G, _, hs, hr, t, fun ds ok G1 J H1 pp x r it => ?_⟩
  intro D hD hsys
  have gD : G1 D = none := r.free hD
  obtain ⟨W, w0, wok, step, fin⟩ := pp D gD
  have xD : Ext H1 G1 (upd H1 D (o0 D)) (up G1 D o) := .new hD
  have rD : HR K (upd H1 D (o0 D)) (up G1 D o) := r.new hD (hor _ _ _ upd_same hsys)
  refine ⟨fun i m H' => m = ds.length - i ∧ i ≤ ds.length ∧ ∃ G', W i G' ∧ Ext H1 G1 H' G' ∧ HR K H' G',
    ⟨ds.length, by simp, Nat.zero_le _, _, w0, xD, rD⟩, ?_⟩
  rintro i m H2 ⟨rfl, hle, G2, w1, x1, r1⟩
  obtain ⟨a1, a2⟩ := it i H2 G2 x1 r1 (wok _ _ w1).1
  by_cases hlt : i < ds.length
  · have e : ds[i]? = some ds[i] := by simp [hlt]
    obtain ⟨go, yl⟩ := a1 _ e
    refine .inr ⟨go, fun H' => ∃ G', W (i + 1) G' ∧ Ext H1 G1 H' G' ∧ HR K H' G', fun H' ⟨G', z⟩ => ⟨_, by omega, rfl, hlt, G', z⟩, fun y H3 hy => ?_⟩
    obtain ⟨x3, r3, v3⟩ := yl y H3 hy
    have s3 : SR K H3 G2 (wipe σ own) (wipeD η own) := ((hs.ext hr x).ext r (x1.trans x3)).wipe own
    refine ⟨_, wipeD η own, G2, _, v3, s3, r3, step i _ G2 e w1, fun η4 G4 σ4 H4 p4 x4 s4 r4 wp => ⟨?_, η4, G4, _, s4, r4, p4, fun b G5 H5 p5 x5 r5 => ?_⟩⟩
    · have hlen : (wipe σ own).length = σ4.length := by
        have := congrArg List.length wp
        rw [wipe_length, wipe_length] at this
        exact this.symm
      rw [wipe_sub (vs := own) wp hsub hlen]
      exact wipe_idem _ _
    · by_cases hb : b = true
      · subst hb
        rw [if_pos rfl] at p5 ⊢
        refine ⟨η4, G5, _, s4.ext r4 x5, r5, p5, fun dk G6 vk H6 p6 x6 r6 q6 => ⟨η4, G6, _, (s4.ext r4 x5).ext r5 x6, r6, p6, fun dy G7 vy H7 ⟨nl7, p7⟩ x7 r7 q7 => ⟨⟨.ref D, dk, dy, G7, _, r7, by rw [VR], q6.ext r6 x7, q7, p7, fun G8 H8 w8 x8 r8 => ⟨G8, w8, (x1.trans ((((x3.trans x4).trans x5).trans x6).trans x7)).trans x8, r8⟩⟩, ?_⟩⟩⟩
        have : ∃ ob, G7 D = some ob := by
          cases e7 : G7 D with
          | none =>
            have : False := by simpa [dSet, e7] using p7
            exact this.elim
          | some ob => exact ⟨ob, rfl⟩
        obtain ⟨ob, e7⟩ := this
        exact hnl _ _ _ ob (r7 D ob e7) fun ds e => nl7 ds (by rw [e7, e])
      · rw [if_neg hb] at p5 ⊢
        exact ⟨G5, p5, x1.trans ((x3.trans x4).trans x5), r5⟩
  · have e : i = ds.length := by omega
    subst e
    exact .inl ⟨a2 (Nat.le_refl _), k (.ref D) G2 (.ref D) H2 (fin _ w1) (x.trans x1) r1 (by rw [VR])⟩
theorem or_nl {K : Ml} (H : Hp) (G : DHp) (D : Addr) (ob : DO) (h : OR K H G D ob) (n : ∀ ds, ob ≠ .lst ds) (xs : List V) : H D ≠ some (.lst xs) := fun e => by
  cases ob with
  | lst ds => exact n ds rfl
  | dK ds => obtain ⟨_, e', _⟩ := h; rw [e] at e'; cases e'
  | dN ds => obtain ⟨_, ⟨_, _, _, e', _⟩, _⟩ := h; rw [e] at e'; cases e'
  | ins C fs => obtain ⟨_, _, e', _⟩ := h; rw [e] at e'; cases e'
theorem ped_dcK {kx vx tg iter : Expr} {ifs : List Expr} {scope : Scope} {own : List (Str × Nat)} {is : List Nat} {pos : Pos} {wi : DTI} {g : DTG} {tt : DTT} {tk tv : DTE} (hu : X.A.units + 64 < cLine) (hc : X.calm = true) (hN : X.N.Nodup) (hi : PID X tg iter wi) (ok : BlkOk X.N X.env.scope scope own)
    (hg : ∀ (s : Shared) (H : Hp) (C : Addr) (cl : List (Str × Addr)) (fp : List Addr), PGD (X.blk s H scope (compEnvC scope cl C X.env) fp) tg is g) (ht : ∀ (s : Shared) (H : Hp) (C : Addr) (cl : List (Str × Addr)) (fp : List Addr), PTsD (X.blk s H scope (compEnvC scope cl C X.env) fp) ifs tt)
    (hk : ∀ (s : Shared) (H : Hp) (C : Addr) (cl : List (Str × Addr)) (fp : List Addr), PED (X.blk s H scope (compEnvC scope cl C X.env) fp) kx tk)
    (he : ∀ (s : Shared) (H : Hp) (C : Addr) (cl : List (Str × Addr)) (fp : List Addr), PED (X.blk s H scope (compEnvC scope cl C X.env) fp) vx tv) (hsub : ∀ i ∈ is, i ∈ own.map (·.2) := by decide) (hs : ∀ x, foldedSetIterable iter X.env x = pure x := by intro _; rfl) :
    PED X (.DictComp kx vx [⟨tg, iter, ifs, 0⟩] scope pos) (dDc (.dK []) wi g tt tk tv (own.map (·.2))) :=
  PE.impI (pe_dcG (o0 := o0K) (St := stD X.ml) hc hN hi ok (fun pins σ H s I => I.laid (t' := s.toks) (fun _ _ q => Heap.get?_push_of_some _ q) (Nat.le_refl _) (dk_empty s.heap I.big)) (fun s H cenv fp => stD_ok (Y := X.blk s H scope cenv fp) hu) hg ht hk he hs)
    fun _ _ _ _ _ _ h => dc_lift (o := .dK []) hsub (fun H G D e _ => ⟨[], e, rfl, .nil⟩) or_nl h
theorem ped_dcN {kx vx tg iter : Expr} {ifs : List Expr} {scope : Scope} {own : List (Str × Nat)} {is : List Nat} {pos : Pos} {wi : DTI} {g : DTG} {tt : DTT} {tk tv : DTE} (hu : X.A.units + 64 < cLine) (hc : X.calm = true) (hN : X.N.Nodup) (hi : PID X tg iter wi) (ok : BlkOk X.N X.env.scope scope own)
    (hg : ∀ (s : Shared) (H : Hp) (C : Addr) (cl : List (Str × Addr)) (fp : List Addr), PGD (X.blk s H scope (compEnvC scope cl C X.env) fp) tg is g) (ht : ∀ (s : Shared) (H : Hp) (C : Addr) (cl : List (Str × Addr)) (fp : List Addr), PTsD (X.blk s H scope (compEnvC scope cl C X.env) fp) ifs tt)
    (hk : ∀ (s : Shared) (H : Hp) (C : Addr) (cl : List (Str × Addr)) (fp : List Addr), PED (X.blk s H scope (compEnvC scope cl C X.env) fp) kx tk)
    (he : ∀ (s : Shared) (H : Hp) (C : Addr) (cl : List (Str × Addr)) (fp : List Addr), PED (X.blk s H scope (compEnvC scope cl C X.env) fp) vx tv) (hsub : ∀ i ∈ is, i ∈ own.map (·.2) := by decide) (hs : ∀ x, foldedSetIterable iter X.env x = pure x := by intro _; rfl) :
    PED X (.DictComp kx vx [⟨tg, iter, ifs, 0⟩] scope pos) (dDc (.dN []) wi g tt tk tv (own.map (·.2))) :=
  PE.impI (pe_dcG (o0 := o0N) (St := stD X.ml) hc hN hi ok (fun pins σ H s I => raw_empty I) (fun s H cenv fp => stD_ok (Y := X.blk s H scope cenv fp) hu) hg ht hk he hs)
    fun _ _ _ _ _ _ h => dc_lift (o := .dN []) hsub (fun H G D e n => ⟨[], dnAt_empty e n, .nil⟩) or_nl h
end
end DL
namespace DL
open PySem PySem.Spec PyProof.Rows L2

section
variable {X : Cx}
/-! ### name = {..} on one line -/
theorem sw_trueD {kx vx : Expr} {gs : List Comprehension} {scope : Scope} {pos py : Pos} {y : Str} {l : Nat} {env_ : Env} (hkn : env_.scope.kind = .function) (hyn : env_.scope.names.lookup y = some .local) (hln : (py.line == pos.line) = true)
    (had : (scope.names.any fun (n_, k_) => n_ == y && (k_ == .local || k_ == .cell)) = false) : swapsWith (.DictComp kx vx gs scope pos) (some (.Name y py)) l env_ = pure true := by
  have kyn : env_.kindOf y = some .local := hyn
  have hbn : env_.blockKind = .function := by unfold Env.blockKind; rw [hkn]; rfl
  unfold swapsWith
  simp only [hbn, kyn, Expr.pos, had, hln]
  rfl
theorem ps_setDcG {i : Nat} {y : Str} {py : Pos} {o0 : Addr → HO} {St : Addr → V → V → Hp → (Hp → Prop) → Prop} {kx vx tg iter : Expr} {ifs : List Expr} {scope : Scope} {own : List (Str × Nat)} {pos spos : Pos} {wi : TI} {g : TG} {tt : TT} {tk tv : TE} (hc : X.calm = true) (hN : X.N.Nodup) (hyn : X.N[i]? = some y) (hyl : X.env.scope.names.lookup y = some .local)
    (hsw : swapsWith (.DictComp kx vx [⟨tg, iter, ifs, 0⟩] scope pos) (some (.Name y py)) spos.line X.env = pure true) (hi : PI X tg iter wi) (ok : BlkOk X.N X.env.scope scope own)
    (hnew : ∀ pn τ M s_a, Inv X pn τ M s_a → Inv X pn τ (upd M s_a.heap.objs.size (o0 s_a.heap.objs.size)) { s_a with heap := s_a.heap.push { cls := .type "dict", data := .dict #[] } }) (hst : ∀ (s_a : Shared) (M : Hp) (cenv : Env) (ws_ : List Addr), StOk (X.blk s_a M scope cenv ws_) St)
    (hpg : ∀ (s_a : Shared) (M : Hp) (Cn : Addr) (cs_ : List (Str × Addr)) (ws_ : List Addr), PG (X.blk s_a M scope (compEnvC scope cs_ Cn X.env) ws_) tg g) (hpt : ∀ (s_a : Shared) (M : Hp) (Cn : Addr) (cs_ : List (Str × Addr)) (ws_ : List Addr), PTs (X.blk s_a M scope (compEnvC scope cs_ Cn X.env) ws_) ifs tt)
    (hkn : ∀ (s_a : Shared) (M : Hp) (Cn : Addr) (cs_ : List (Str × Addr)) (ws_ : List Addr), PE (X.blk s_a M scope (compEnvC scope cs_ Cn X.env) ws_) kx tk)
    (hpv : ∀ (s_a : Shared) (M : Hp) (Cn : Addr) (cs_ : List (Str × Addr)) (ws_ : List Addr), PE (X.blk s_a M scope (compEnvC scope cs_ Cn X.env) ws_) vx tv) (hfs : ∀ x_, foldedSetIterable iter X.env x_ = pure x_ := by intro _; rfl) :
    PS X (.Assign [.Name y py] (.DictComp kx vx [⟨tg, iter, ifs, 0⟩] scope pos) spos) (tAsg (tDcG o0 St wi g tt tk tv (own.map (·.2))) (gName i)) := by
  refine ⟨fun pn s_a τ M Dn Iv hq => ?_⟩
  rw [exec_Assign_Name_used _ _ _ _ hsw]
  refine wpAny_bind (wpAny_standAt (wpAny_bind ?_))
  show wpAny _ X.A (do let _ ← comprehension (.DictComp kx vx [⟨tg, iter, ifs, 0⟩] scope pos) scope X.env (firstIterPos [⟨tg, iter, ifs, 0⟩] pos) newDict false (eval iter X.env) (some (assign (.Name y py) X.env))) _ _ s_a
  have hq : tDcG o0 St wi g tt tk tv (own.map (·.2)) τ M (fun x_ H1 => gName i x_ τ H1 Dn.nx) := hq
  refine wpAny_bind (thn (dcG_core (Qe := fun _ s_b => SP X pn Dn .next s_b) hc hN Iv hi ok hpg hpt hkn hpv hfs hnew hst hq fun Ln Cn s_b n_m M' Iw qv hns hfp => ?_) fun _ s_b hq => wpAny_pure (wpAny_pure hq))
  show wpAny _ _ (assign (.Name y py) X.env (.ref Ln)) _ _ _
  refine wpAny_assign_Name (store_ok2 (v := V.ref Ln) Iw hN hyn (.inl hyl) rfl (fun s_c Ix ⟨ad, sbt, had⟩ => ?_) (.inr hyl))
  obtain ⟨p0, p1, p2, p3, p4, p5⟩ := hfp
  have hne : Cn ≠ ad := by
    rcases had with zz | zz
    · rw [zz]; exact p1
    · exact fun e_ => p4 y ad zz e_.symm
  refine ⟨n_m, hns.sameBut sbt hne, fun hp3 sbt3 => ?_⟩
  exact ⟨_, M', Ix.turned (t' := s_c.toks) (fun b_ o_ hbn e_ => (sbt3.2 b_ hbn).trans e_) p0 p1 p3 p4 p5, qv⟩
theorem psd_setDcN {i : Nat} {y : Str} {py : Pos} {kx vx tg iter : Expr} {ifs : List Expr} {scope : Scope} {own : List (Str × Nat)} {is : List Nat} {pos spos : Pos} {wi : DTI} {g : DTG} {tt : DTT} {tk tv : DTE} (hu : X.A.units + 64 < cLine) (hc : X.calm = true) (hN : X.N.Nodup) (hy : X.N[i]? = some y) (hyl : X.env.scope.names.lookup y = some .local)
    (hsw : swapsWith (.DictComp kx vx [⟨tg, iter, ifs, 0⟩] scope pos) (some (.Name y py)) spos.line X.env = pure true) (hi : PID X tg iter wi) (ok : BlkOk X.N X.env.scope scope own)
    (hg : ∀ (s : Shared) (H : Hp) (C : Addr) (cl : List (Str × Addr)) (fp : List Addr), PGD (X.blk s H scope (compEnvC scope cl C X.env) fp) tg is g) (ht : ∀ (s : Shared) (H : Hp) (C : Addr) (cl : List (Str × Addr)) (fp : List Addr), PTsD (X.blk s H scope (compEnvC scope cl C X.env) fp) ifs tt)
    (hk : ∀ (s : Shared) (H : Hp) (C : Addr) (cl : List (Str × Addr)) (fp : List Addr), PED (X.blk s H scope (compEnvC scope cl C X.env) fp) kx tk)
    (he : ∀ (s : Shared) (H : Hp) (C : Addr) (cl : List (Str × Addr)) (fp : List Addr), PED (X.blk s H scope (compEnvC scope cl C X.env) fp) vx tv) (hsub : ∀ i ∈ is, i ∈ own.map (·.2) := by decide) (hs : ∀ x, foldedSetIterable iter X.env x = pure x := by intro _; rfl) :
    PSD X (.Assign [.Name y py] (.DictComp kx vx [⟨tg, iter, ifs, 0⟩] scope pos) spos) (dAsg (dDc (.dN []) wi g tt tk tv (own.map (·.2))) (gdName i)) :=
  PS.impI (ps_setDcG (o0 := o0N) (St := stD X.ml) hc hN hy hyl hsw hi ok (fun pins σ H s I => raw_empty I) (fun s H cenv fp => stD_ok (Y := X.blk s H scope cenv fp) hu) hg ht hk he hs)
    fun _ _ σ H E _ ⟨η, G, F, hs, hr, t, k⟩ => show tDcG _ _ _ _ _ _ _ _ σ H _ from dc_lift (o := .dN []) hsub (fun H G D e n => ⟨[], dnAt_empty e n, .nil⟩) or_nl ⟨η, G, _, hs, hr, t, fun d G1 v H1 p1 x1 r1 q1 => k.nx _ G1 _ H1 p1 x1 ((hs.ext hr x1).set i q1) r1⟩
theorem psd_setDcK {i : Nat} {y : Str} {py : Pos} {kx vx tg iter : Expr} {ifs : List Expr} {scope : Scope} {own : List (Str × Nat)} {is : List Nat} {pos spos : Pos} {wi : DTI} {g : DTG} {tt : DTT} {tk tv : DTE} (hu : X.A.units + 64 < cLine) (hc : X.calm = true) (hN : X.N.Nodup) (hy : X.N[i]? = some y) (hyl : X.env.scope.names.lookup y = some .local)
    (hsw : swapsWith (.DictComp kx vx [⟨tg, iter, ifs, 0⟩] scope pos) (some (.Name y py)) spos.line X.env = pure true) (hi : PID X tg iter wi) (ok : BlkOk X.N X.env.scope scope own)
    (hg : ∀ (s : Shared) (H : Hp) (C : Addr) (cl : List (Str × Addr)) (fp : List Addr), PGD (X.blk s H scope (compEnvC scope cl C X.env) fp) tg is g) (ht : ∀ (s : Shared) (H : Hp) (C : Addr) (cl : List (Str × Addr)) (fp : List Addr), PTsD (X.blk s H scope (compEnvC scope cl C X.env) fp) ifs tt)
    (hk : ∀ (s : Shared) (H : Hp) (C : Addr) (cl : List (Str × Addr)) (fp : List Addr), PED (X.blk s H scope (compEnvC scope cl C X.env) fp) kx tk)
    (he : ∀ (s : Shared) (H : Hp) (C : Addr) (cl : List (Str × Addr)) (fp : List Addr), PED (X.blk s H scope (compEnvC scope cl C X.env) fp) vx tv) (hsub : ∀ i ∈ is, i ∈ own.map (·.2) := by decide) (hs : ∀ x, foldedSetIterable iter X.env x = pure x := by intro _; rfl) :
    PSD X (.Assign [.Name y py] (.DictComp kx vx [⟨tg, iter, ifs, 0⟩] scope pos) spos) (dAsg (dDc (.dK []) wi g tt tk tv (own.map (·.2))) (gdName i)) :=
  PS.impI (ps_setDcG (o0 := o0K) (St := stD X.ml) hc hN hy hyl hsw hi ok (fun pins σ H s I => I.laid (t' := s.toks) (fun _ _ q => Heap.get?_push_of_some _ q) (Nat.le_refl _) (dk_empty s.heap I.big)) (fun s H cenv fp => stD_ok (Y := X.blk s H scope cenv fp) hu) hg ht hk he hs)
    fun _ _ σ H E _ ⟨η, G, F, hs, hr, t, k⟩ => show tDcG _ _ _ _ _ _ _ _ σ H _ from dc_lift (o := .dK []) hsub (fun H G D e _ => ⟨[], e, rfl, .nil⟩) or_nl ⟨η, G, _, hs, hr, t, fun d G1 v H1 p1 x1 r1 q1 => k.nx _ G1 _ H1 p1 x1 ((hs.ext hr x1).set i q1) r1⟩

/-! ### dict(pairs), the keys tuples -/
/-- the pairs of a list -/
def prsN : List D → Option (List (NestedKey × D))
  | [] => some []
  | .nd .tup [k, v] :: r => match k, D.key k, prsN r with
    | .nd .tup _, some k, some ps => some ((k, v) :: ps)
    | _, _, _ => none
  | _ :: _ => none
def dputs (kvs ps : List (NestedKey × D)) : List (NestedKey × D) := ps.foldl (fun acc p => dput acc p.1 p.2) kvs
/-- each pair as it stands in the heap -/
def PrAt (K : Ml) (H : Hp) (G : DHp) (x : NestedKey × Addr × Value) (p : NestedKey × D) : Prop := x.1 = p.1 ∧ KeyAt K H x.1 (.ref x.2.1) ∧ ∃ v, RelV v x.2.2 ∧ VR K H G p.2 v
theorem prs_at {K : Ml} {H : Hp} {G : DHp} {pins : List (Addr × Obj)} {σ : L2.St} {s : Shared} : ∀ {ds : List D} {ps : List (NestedKey × D)} {vs : List V} {us : List Value}, Inv X pins σ H s → K = X.ml → prsN ds = some ps → VRs K H G ds vs → Vals vs us →
    ∃ (xs : List (NestedKey × Addr × Value)) (Ts : List Addr), Paired (PrAt K H G) xs ps ∧ us = Ts.map Value.ref ∧ Ts.length = xs.length ∧ ∀ (j : Nat) (x : NestedKey × Addr × Value), xs[j]? = some x → ∃ T, Ts[j]? = some T ∧ s.heap.IsTuple T #[.ref x.2.1, x.2.2]
  | [], ps, vs, us, I, hK, e, h, r => by
    cases e
    rw [h.nil_of] at r
    cases r
    exact ⟨[], [], .nil, rfl, rfl, fun j x e => by simp at e⟩
  | d :: ds, ps, vs, us, I, hK, e, h, r => by
    unfold prsN at e
    split at e
    · rename_i h0; cases h0
    · rename_i k v r' h0
      cases h0
      split at e
      · rename_i kk ks k' ps' e2 e1
        cases e
        obtain ⟨z, zs, rfl, q, t⟩ := h.uncons
        cases r with
        | cons r1 r2 =>
          obtain ⟨xs, Ts, p1, p2, p3, p4⟩ := prs_at I hK e2 t r2
          rw [VR] at q
          obtain ⟨a, ws, rfl, q, qs⟩ := q
          obtain ⟨w1, ws, rfl, qk, qs⟩ := qs.uncons
          obtain ⟨w2, ws, rfl, qv, qs⟩ := qs.uncons
          cases qs.nil_of
          cases r1
          subst hK
          have ka := key_at qk e1
          rw [VR] at qk
          obtain ⟨b, bs, rfl, hb, rb⟩ := qk
          obtain ⟨its, rv, tt, hz⟩ := I.tuple q
          obtain ⟨u1, u2, rfl, ru1, ru2⟩ := rv.two
          cases ru1
          refine ⟨(k', b, u2) :: xs, a :: Ts, .cons ⟨rfl, ka, w2, ru2, qv⟩ p1, by rw [p2]; rfl, by simp [p3], fun j x e => ?_⟩
          cases j with
          | zero =>
            simp only [List.getElem?_cons_zero, Option.some.injEq] at e
            subst e
            exact ⟨a, rfl, tt⟩
          | succ j => simpa using p4 j x (by simpa using e)
      · cases e
    · cases e
theorem paired_len {α β : Type} {F : α → β → Prop} : ∀ {xs : List α} {ys : List β}, Paired F xs ys → xs.length = ys.length
  | _, _, .nil => rfl
  | _, _, .cons _ t => by rw [List.length_cons, List.length_cons, paired_len t]
theorem prAt_atKey {K : Ml} {H : Hp} {G : DHp} {k : NestedKey} : ∀ {xs : List (NestedKey × Addr × Value)} {ps : List (NestedKey × D)}, Paired (PrAt K H G) xs ps → (atKey xs k).isSome = (dval ps k).isSome
  | _, _, .nil => rfl
  | _, _, .cons (a := x) (b := p) h t => by
    have e := h.1
    by_cases q : p.1 = k
    · simp [atKey, dval, List.find?_cons, e, q]
    · have := prAt_atKey (k := k) t
      simpa [atKey, dval, List.find?_cons, e, q] using this
theorem prAt_store {K : Ml} {H : Hp} {G : DHp} {xs : List (NestedKey × Addr × Value)} {ps : List (NestedKey × D)} {x : NestedKey × Addr × Value} {p : NestedKey × D} (h : Paired (PrAt K H G) xs ps) (q : PrAt K H G x p) :
    Paired (PrAt K H G) (storedH xs x.1 x.2.1 x.2.2) (dput ps p.1 p.2) := by
  unfold storedH dput
  rw [any_dval, ← q.1, prAt_atKey h]
  split
  · have : ∀ {xs : List (NestedKey × Addr × Value)} {ps : List (NestedKey × D)}, Paired (PrAt K H G) xs ps → Paired (PrAt K H G) (xs.map (putAt x.1 x.2.2)) (ps.map fun z => if z.1 = x.1 then (z.1, p.2) else z) := by
      intro xs ps h
      induction h with
      | nil => exact .nil
      | @cons a b l1 l2 r t ih =>
        refine .cons ?_ ih
        obtain ⟨r1, r2, r3⟩ := r
        show PrAt K H G (putAt x.1 x.2.2 a) (if b.1 = x.1 then (b.1, p.2) else b)
        by_cases e : b.1 = x.1
        · rw [if_pos e]
          unfold putAt
          rw [if_pos (by rw [r1]; exact e)]
          exact ⟨r1, r2, q.2.2⟩
        · rw [if_neg e]
          unfold putAt
          rw [if_neg (by rw [r1]; exact e)]
          exact ⟨r1, r2, r3⟩
    exact this h
  · exact h.snoc ⟨rfl, q.2⟩
theorem prAt_stores {K : Ml} {H : Hp} {G : DHp} {xs : List (NestedKey × Addr × Value)} {ps : List (NestedKey × D)} (h : Paired (PrAt K H G) xs ps) : ∀ {ys : List (NestedKey × Addr × Value)} {qs : List (NestedKey × D)}, Paired (PrAt K H G) ys qs → Paired (PrAt K H G) (storedAllH ys xs) (dputs qs ps) := by
  induction h with
  | nil => intro ys qs h; exact h
  | cons r t ih => intro ys qs h; exact ih (prAt_store h r)
theorem prAt_split {K : Ml} {H : Hp} {G : DHp} : ∀ {xs : List (NestedKey × Addr × Value)} {ps : List (NestedKey × D)}, Paired (PrAt K H G) xs ps → xs.map (·.1) = ps.map (·.1) ∧ ∃ vs, Vals vs (xs.map (·.2.2)) ∧ VRs K H G (ps.map (·.2)) vs
  | _, _, .nil => ⟨rfl, [], .nil, .nil⟩
  | _, _, .cons ⟨r1, r2, v, r3, r4⟩ t => by
    obtain ⟨a, vs, b, c⟩ := prAt_split t
    exact ⟨by rw [List.map_cons, List.map_cons, r1, a], v :: vs, .cons r3 b, .cons r4 c⟩
theorem prAt_keys {K : Ml} {H : Hp} {G : DHp} (B : Nat) : ∀ {xs : List (NestedKey × Addr × Value)} {ps : List (NestedKey × D)}, Paired (PrAt K H G) xs ps → (∀ p ∈ ps, p.1.depth ≤ B) → ∀ x ∈ xs, KeyAt K H x.1 (.ref x.2.1) ∧ x.1.depth ≤ B
  | _, _, .nil, _, _, h => nomatch h
  | _, _, .cons ⟨r1, r2, _⟩ t, h, x, hx => by
    rcases List.mem_cons.mp hx with rfl | hx
    · exact ⟨r2, by rw [r1]; exact h _ (by simp)⟩
    · exact prAt_keys B t (fun p hp => h p (by simp [hp])) x hx
theorem dputs_mem {k : NestedKey} : ∀ (ps kvs : List (NestedKey × D)) {p : NestedKey × D}, p ∈ dputs kvs ps → (∃ q ∈ kvs, q.1 = p.1) ∨ ∃ q ∈ ps, q.1 = p.1
  | [], kvs, p, h => .inl ⟨p, h, rfl⟩
  | z :: ps, kvs, p, h => by
    rcases dputs_mem (k := k) ps (dput kvs z.1 z.2) h with ⟨q, hq, e⟩ | ⟨q, hq, e⟩
    · unfold dput at hq
      split at hq
      · obtain ⟨y, hy, rfl⟩ := List.mem_map.mp hq
        refine .inl ⟨y, hy, ?_⟩
        rw [← e]
        split <;> rfl
      · rcases List.mem_append.mp hq with hq | hq
        · exact .inl ⟨q, hq, e⟩
        · simp at hq
          subst hq
          exact .inr ⟨z, by simp, e⟩
    · exact .inr ⟨q, by simp [hq], e⟩
theorem dput_le {κ : Type} [DecidableEq κ] (kvs : List (κ × D)) (k : κ) (v : D) : (dput kvs k v).length ≤ kvs.length + 1 := by
  unfold dput
  split
  · simp
  · simp
theorem dputs_le : ∀ (ps kvs : List (NestedKey × D)), (dputs kvs ps).length ≤ kvs.length + ps.length
  | [], kvs => Nat.le_refl _
  | z :: ps, kvs => by
    have h1 := dputs_le ps (dput kvs z.1 z.2)
    have h2 := dput_le kvs z.1 z.2
    show (dputs (dput kvs z.1 z.2) ps).length ≤ _
    rw [List.length_cons]; omega
/-- dict(xs) of a list of pairs, the keys tuples; it is tracked -/
def dDictN : DRn := d1 fun d G Q => match der d G with
  | .nd .lst ds => (match prsN ds with
    | some ps => (∀ p ∈ ps, p.1.depth ≤ 8) ∧ ∀ a, G a = none → Q (.ref a) (up G a (.dN (dputs [] ps)))
    | none => False)
  | _ => False
theorem cd_dictN (hu : X.A.units + 64 < cLine) (hc : X.calm = true) : CallD X (.type "dict") dDictN := calld1 fun pins s σ H G x v d P I rx hr q1 t => by
  split at t
  · rename_i ds e
    split at t
    · rename_i ps ep
      obtain ⟨h8, t⟩ := t
      obtain ⟨a, vs, rfl, hH, r⟩ := der_lst hr q1 e
      cases (show v = Value.ref a from rx)
      obtain ⟨hz, its, n, rv, hl, hg⟩ := I.lstM hH
      obtain ⟨xs, Ts, p1, p2, p3, p4⟩ := prs_at I rfl ep r rv
      have hlen : xs.length = its.length := by rw [p2, List.length_map, p3]
      have items : PairItems s.heap its.toArray (fun j => Ts.getD j 0) (xs.map fun x => (Value.ref x.2.1, x.2.2)) := by
        refine ⟨by rw [List.size_toArray, List.length_map, hlen], fun j k v hj => ?_⟩
        rw [List.getElem?_map] at hj
        cases ex : xs[j]? with
        | none => rw [ex] at hj; cases hj
        | some x =>
          rw [ex] at hj; cases hj
          obtain ⟨T, eT, it⟩ := p4 j x ex
          have eT' : Ts.getD j 0 = T := by rw [List.getD_eq_getElem?_getD, eT]; rfl
          refine ⟨?_, .inl ?_⟩
          · show its.toArray[j]? = some (Value.ref (Ts.getD j 0))
            rw [eT', List.getElem?_toArray, p2, List.getElem?_map, eT]; rfl
          · show s.heap.IsTuple (Ts.getD j 0) _
            rw [eT']; exact it
      refine call_dict_pairsH (knd := nestedKind X.prog X.w) (ps := xs) (PairArg.list a its.toArray (fun j => Ts.getD j 0) (xs.map fun x => (Value.ref x.2.1, x.2.2))) (by show X.A.handled = none; exact I.ok.hd hc) (by show X.A.units + 1 + 1 + 8 < cLine; omega)
        ⟨⟨_, n, hg, rfl, rfl, rfl⟩, items⟩ ⟨by rw [List.length_map], fun i key v hi => ?_⟩ (fun h' hk y hy => ?_) (by rw [List.length_map, hlen, ← hl]; exact hz) fun h' tk hd' hk => ?_
      · have hi : (xs.map fun x => (Value.ref x.2.1, x.2.2))[i]? = some (key, v) := hi
        rw [List.getElem?_map] at hi
        cases ex : xs[i]? with
        | none => rw [ex] at hi; cases hi
        | some x => rw [ex] at hi; cases hi; exact ⟨x.1, x.2.1, rfl, rfl⟩
      · have ky := prAt_keys 8 p1 h8 y hy
        refine nestedKind_stays.stays (fun b o vs n e _ => hk b o (Nat.ne_of_lt (Heap.lt_size e)) (by simp) e) ⟨nested_is I ky.1 rfl, ky.2⟩
      · have fin := prAt_stores p1 .nil
        obtain ⟨f1, ws, f2, f3⟩ := prAt_split fin
        obtain ⟨o', es', ep', ho', hx', hdat', he', _, hn'⟩ := hd'
        have raw : h'.DictRaw s.heap.objs.size es' ep' := ⟨o', ho', hx', hdat'⟩
        have hp : H s.heap.objs.size = none := I.hok.fresh (Nat.le_refl _)
        have I' : Inv X pins σ (upd H s.heap.objs.size (rawO s.heap.objs.size es' ep')) { s with heap := h', toks := tk } :=
          I.laid (fun b o e => hk b o (by simp) e) (Nat.le_refl _) ⟨raw, ⟨o', ho'⟩, fun h1 h2 φ k => φ.at k⟩
        have x2 : Ext H G (upd H s.heap.objs.size (rawO s.heap.objs.size es' ep')) (up G s.heap.objs.size (.dN (dputs [] ps))) := .new hp
        refine ⟨.ref _, .ref _, _, _, I', rfl, t _ (hr.free hp), x2, hr.new hp ⟨ws, ?_, f3.ext hr x2⟩, by rw [VR]⟩
        refine ⟨storedAllH [] xs, es', ep', upd_same, notSys I, he', f1, by rw [← f1]; exact hn', ?_, fun y hy => ?_, f2⟩
        · rw [List.length_map]
          have := dputs_le ps []
          have := paired_len p1
          have h0 : ([] : List (NestedKey × D)).length = 0 := rfl
          omega
        · have ky := prAt_keys 8 fin (fun p hp => by
            rcases dputs_mem (k := p.1) ps [] hp with ⟨q, hq, _⟩ | ⟨q, hq, e⟩
            · cases hq
            · rw [← e]; exact h8 q hq) y hy
          exact ⟨ky.1.ext hr x2, ky.2⟩
    · exact t.elim
  · exact t.elim
end
end DL
namespace DL
open PySem PySem.Spec PyProof.Rows L2

/-! ### a def keeps its promise -/
def startD (N : List Str) (ds : List D) : DSt := ds.map some ++ List.replicate (N.length - ds.length) none
theorem SR.st {K : Ml} {H : Hp} {G : DHp} {N : List Str} {ds : List D} {vs : List V} (h : VRs K H G ds vs) : SR K H G (L2.start N vs) (startD N ds) := by
  refine ⟨?_, fun i d e => ?_⟩
  · unfold L2.start startD
    rw [List.length_append, List.length_append, List.length_map, List.length_map, List.length_replicate, List.length_replicate, h.length]
  · unfold startD at e
    by_cases hi : i < ds.length
    · rw [List.getElem?_append_left (by rw [List.length_map]; exact hi), List.getElem?_map] at e
      cases ed : ds[i]? with
      | none => rw [ed] at e; cases e
      | some d' =>
        rw [ed] at e
        simp only [Option.map_some, Option.some.injEq] at e
        subst e
        obtain ⟨v, ev, q⟩ := h.get ed
        refine ⟨v, ?_, q⟩
        unfold L2.start
        rw [List.getElem?_append_left (by rw [List.length_map, h.length]; exact hi), List.getElem?_map, ev]
        rfl
    · rw [List.getElem?_append_right (by rw [List.length_map]; omega), List.getElem?_replicate] at e
      split at e
      · cases e
      · cases e
section
variable {P : Program} {w : World} {K : PySem.W.Frag} {mg : Str → Option Value} {base : Heap}
theorem fn_d {x qual : Str} {st : Stmt} {f : Addr} {fd : FuncData} {N ps : List Str} {k : Nat} {sp : DRn} (F : Fun K x qual st f fd) (S : FnScope N ps (defScope st)) (len : ∀ ds G Q, sp ds G Q → ds.length = ps.length) {T : DTS}
    (hp : ∀ (cdv : Value) (A : Around) (outer : List Env) (s : Shared) (H : Hp) (E : XK), Room k (A.deeper (envOfC qual (defScope st) s.heap.objs.size f cdv)) → PSsD (cxOf CX0 P w K mg base N qual (defScope st) f cdv A outer s H E).nox (defBody st) T)
    (hs : ∀ ds G Q, sp ds G Q → T { nx := fun _ G' => Q .non G', rt := Q } (startD N ds) G) : FnD P w K mg base (k + 1) f fd ps sp := by
  refine F.ok S (fun vs H Q E h => ?_) (fun cdv A outer s H vs Q E hr h => ?_)
  · obtain ⟨ds, G, Q', q, _, t, _⟩ := h
    rw [q.length]
    exact len _ _ _ t
  · obtain ⟨ds, G, Q', q, hr', t, k'⟩ := h
    refine ⟨liftS ⟨K, w⟩ T, hp cdv A outer s H E hr, startD N ds, G, _, .st q, hr', hs ds G Q' t, ?_⟩
    exact ⟨fun η G' σ H' p x _ r => k' _ _ _ _ p x r (by rw [VR]), fun d G' v H' p x r q => k' _ _ _ _ p x r q, fun _ _ _ _ p => p.elim, fun _ _ _ _ p => p.elim⟩
/-- a promise: the arguments, then what the body leads to -/
def spLaw : DRn := d1 fun d G Q => ∃ ns : List Int, d = .nd .scr (ns.map .int) ∧ ns.length ≤ 63 ∧ (∀ a, G a = none) ∧ ∀ G', Q (.bl true) G'
theorem walk_d {l : PySem.W.OpenLaw} {k : Nat} {q : Program} {loose : List Str} {XP : (Str → Option Value) → Heap → Prop} {YP : World → Heap → Prop} {d : DefRec} {K : Params → PySem.W.Frag} {x : Str}
    (hn : l.most = some 63) (hdf : d.params.defaults = []) (hr : Room k callerA)
    (hY : ∀ (w : World) (h : Heap), YP w h → (K w.params).In h)
    (F : ∀ (w : World) (mg : Str → Option Value) (fa : Addr) (h : Heap), (K w.params).In h → h.Ns mainGlobals mg → mg d.name = some (.ref fa) →
      ∃ fd : FuncData, (∀ (s : Shared) (u : Value), BindsTo s fd ⟨[u], []⟩ [(x, u)]) ∧
        ∀ base : Heap, (K w.params).In base → base.Ns mainGlobals mg → FnD l.prog w (K w.params) mg base k fa fd [x] spLaw) :
    PySem.W.WalkO q loose XP YP l.row.toRowW d [] (fun f vs => PySem.call f vs) :=
  L2.walk_of (K := K) (CX := fun _ => CX0) (sp := fun w vs H Q _ => liftN ⟨K w.params, w⟩ spLaw vs H Q) hn (by decide) hdf hr hY F (fun w H a ns h1 h2 h3 => by
    have hs : VR ⟨K w.params, w⟩ H (fun _ => none) (.nd .scr (ns.map .int)) (.ref a) := by
      rw [VR]
      refine ⟨a, _, rfl, ?_, .of_ints ns⟩
      rcases h3 with (h3 | ⟨o, h3⟩) | h3
      · rcases h2 a with z | ⟨ob, xs, z⟩
        · rw [h3] at z; cases z
        · rw [h3] at z; cases z
      · exact .inl ⟨o, h3⟩
      · exact .inr h3
    exact ⟨[.nd .scr (ns.map .int)], fun _ => none, fun v _ => v = .bl true, .cons hs .nil, (fun a o e => by cases e), ⟨ns, rfl, h1, fun _ => rfl, fun _ => rfl⟩, fun d G' v H' p _ _ q => by
      subst p
      rw [VR] at q
      exact q⟩) fun _ _ _ _ _ z => z
end
theorem Room.u65 {k : Nat} {A : Around} (r : Room k A) : A.units + 65 < cLine := by have := r.un; omega
end DL
namespace DL
open PySem PySem.Spec PyProof.Rows L2

/-! ### the keys of a dict, whatever way it is held -/
def keysD (d : D) (G : DHp) : Option (List D) := match dicN d G with
  | some kvs => some (kvs.map fun p => nkD p.1)
  | none => match dicK d G with
    | some kvs => some (kvs.map fun p => kD p.1)
    | none => none
section
variable {X : Cx}
mutual
theorem key_reads {pins : List (Addr × Obj)} {σ : L2.St} {H : Hp} {s : Shared} (I : Inv X pins σ H s) : ∀ {k : NestedKey} {v : V} {u : Value}, KeyAt X.ml H k v → RelV v u → Reads s.heap u (py (nkD k)) []
  | .none, _, _, h, r => by rw [KeyAt] at h; subst h; cases (show _ = Value.none from r); rw [nkD, py]; exact .none
  | .num i, _, _, h, r => by rw [KeyAt] at h; subst h; obtain ⟨t, rfl⟩ := r; rw [nkD, py]; exact .int i t
  | .text x, _, _, h, r => by rw [KeyAt] at h; subst h; obtain ⟨t, rfl⟩ := r; rw [nkD, py]; exact .str x t
  | .tup ks, _, _, h, r => by
    rw [KeyAt] at h
    obtain ⟨a, vs, rfl, q, t⟩ := h
    cases r
    obtain ⟨its, rv, tt, hz⟩ := I.tuple q
    obtain ⟨o, ho, hc, n, hd⟩ := tt
    rw [nkD, py]
    exact .tuple ho hc hd (by simpa using keys_reads I t rv)
theorem keys_reads {pins : List (Addr × Obj)} {σ : L2.St} {H : Hp} {s : Shared} (I : Inv X pins σ H s) : ∀ {k : List NestedKey} {v : List V} {u : List Value}, KeysAt X.ml H k v → Vals v u → ReadsAll s.heap u (pys (nkDs k)) []
  | [], _, _, h, r => by rw [KeysAt] at h; subst h; cases r; rw [nkDs, pys]; exact .nil
  | k :: ks, _, _, h, r => by
    rw [KeysAt] at h
    obtain ⟨v, vs, rfl, q, t⟩ := h
    cases r with
    | cons r1 r2 =>
      rw [nkDs, pys]
      exact .cons (as := []) (bs := []) (key_reads I q r1) (keys_reads I t r2)
end
/-- what is known of the keys -/
theorem keysD_at {pins : List (Addr × Obj)} {σ : L2.St} {H : Hp} {G : DHp} {s : Shared} {d : D} {v : V} {ks : List D} (I : Inv X pins σ H s) (hr : HR X.ml H G) (q : VR X.ml H G d v) (e : keysD d G = some ks) :
    ∃ a es ep vs, v = .ref a ∧ (a == sysModules) = false ∧ s.heap.DictRaw a es ep ∧ es.size ≤ sizeLine ∧ Vals vs (es.toList.map (·.key)) ∧ VRs X.ml H G ks vs ∧ PySem.W.EachIs (fun u d => Reads s.heap u (py d) []) (es.toList.map (·.key)) ks := by
  unfold keysD at e
  split at e
  · rename_i kvs e1
    cases e
    obtain ⟨a, ws, rfl, dn, vr⟩ := dicN_at hr q e1
    obtain ⟨xs, es, ep, h1, h2, h3, h4, h5, h6, h7, h8, h9⟩ := DnAt.of I dn
    have hm : es.toList.map (·.key) = xs.map fun x => Value.ref x.2.1 := by
      rw [h3, List.map_map]
      exact List.map_congr_left fun x _ => rfl
    have hk : kvs.map (fun p => nkD p.1) = xs.map fun x => nkD x.1 := by
      rw [show (fun p : NestedKey × D => nkD p.1) = nkD ∘ (·.1) from rfl, ← List.map_map, ← h6, List.map_map]; rfl
    have hsz : es.size ≤ sizeLine := by
      have := congrArg List.length h3
      rw [List.length_map, Array.length_toList] at this
      have h62 := congrArg List.length h6
      rw [List.length_map] at h62
      omega
    refine ⟨a, es, ep, xs.map fun x => V.ref x.2.1, rfl, h5, h2, hsz, ?_, ?_, ?_⟩
    · rw [hm]
      have : ∀ zs : List (NestedKey × Addr × Value), Vals (zs.map fun x => V.ref x.2.1) (zs.map fun x => Value.ref x.2.1) := fun zs => by
        induction zs with
        | nil => exact .nil
        | cons z zs ih => exact .cons rfl ih
      exact this xs
    · rw [hk]
      have : ∀ zs : List (NestedKey × Addr × Value), (∀ x ∈ zs, KeyAt X.ml H x.1 (.ref x.2.1) ∧ x.1.depth ≤ 8) → VRs X.ml H G (zs.map fun x => nkD x.1) (zs.map fun z => V.ref z.2.1) := by
        intro zs
        induction zs with
        | nil => intro _; exact .nil
        | cons z zs ih => intro h; exact .cons (nkD_vr (h z (by simp)).1) (ih fun x hx => h x (by simp [hx]))
      exact this xs h8
    · rw [hk, hm]
      have : ∀ zs : List (NestedKey × Addr × Value), (∀ x ∈ zs, KeyAt X.ml H x.1 (.ref x.2.1) ∧ x.1.depth ≤ 8) → PySem.W.EachIs (fun u d => Reads s.heap u (py d) []) (zs.map fun x => Value.ref x.2.1) (zs.map fun x => nkD x.1) := by
        intro zs
        induction zs with
        | nil => intro _; exact .nil
        | cons z zs ih => intro h; exact .cons (key_reads I (h z (by simp)).1 rfl) (ih fun x hx => h x (by simp [hx]))
      exact this xs h8
  · split at e
    · rename_i kvs e1
      cases e
      obtain ⟨a, ws, rfl, rd, hks, vr⟩ := dicK_at hr q e1
      obtain ⟨z, hd, vs, rel, dd⟩ := dk_rd I.hok rd
      obtain ⟨es, ep, raw, hsz, hat⟩ := dd.raw
      have hl : ws.length = vs.length := rel.length
      have hk : kvs.map (fun p => kD p.1) = (ws.map (·.1)).map kD := by
        rw [hks, List.map_map]; rfl
      have hkey : ws.map (·.1) = vs.map (·.1) := rel.keys
      have each : ∀ (F : Value → Key → Prop), (∀ k u, (mixKind X.prog X.w).is k u = true → F u k) → PySem.W.EachIs F (es.toList.map (·.key)) (vs.map (·.1)) := fun F hF => by
        have go : ∀ (l : List DictEntry) (m : List (Key × Value)), l.length = m.length → (∀ i (hi : i < l.length) k v, m[i]? = some (k, v) → (mixKind X.prog X.w).is k l[i].key = true) → PySem.W.EachIs F (l.map (·.key)) (m.map (·.1)) := by
          intro l
          induction l with
          | nil =>
            intro m h1 h2
            cases m with
            | nil => exact .nil
            | cons _ _ => simp at h1
          | cons x l ih =>
            intro m h1 h2
            cases m with
            | nil => simp at h1
            | cons y m =>
              obtain ⟨k, v⟩ := y
              refine .cons (hF _ _ (h2 0 (by simp) k v rfl)) (ih m (by simpa using h1) fun i hi k' v' e => ?_)
              have := h2 (i + 1) (by simpa using hi) k' v' (by simpa using e)
              simpa using this
        refine go _ _ (by rw [Array.length_toList]; exact hsz) fun i hi k v e => ?_
        have := (hat i (by simpa using hi) k v e).1
        simpa using this
      refine ⟨a, es, ep, (ws.map (·.1)).map kV, rfl, hd, raw, by rw [hsz, ← hl]; exact z, ?_, ?_, ?_⟩
      · rw [hkey]
        have := each (fun u k => RelV (kV k) u) fun k u h => mix_rel h
        have go : ∀ {us : List Value} {ks : List Key}, PySem.W.EachIs (fun u k => RelV (kV k) u) us ks → Vals (ks.map kV) us := by
          intro us ks h
          induction h with
          | nil => exact .nil
          | cons r _ ih => exact .cons r ih
        exact go this
      · rw [hk]
        exact kVs_vr _
      · rw [hk, hkey]
        have := each (fun u k => Reads s.heap u (py (kD k)) []) fun k u h => by
          rcases keyIs_shape (show keyIs k u = true from h) with ⟨i, t, rfl, rfl⟩ | ⟨x, t, rfl, rfl⟩
          · show Reads _ _ (py (.int i)) []; rw [py]; exact .int i t
          · show Reads _ _ (py (.str x)) []; rw [py]; exact .str x t
        have go : ∀ {us : List Value} {ks : List Key}, PySem.W.EachIs (fun u k => Reads s.heap u (py (kD k)) []) us ks → PySem.W.EachIs (fun u d => Reads s.heap u (py d) []) us (ks.map kD) := by
          intro us ks h
          induction h with
          | nil => exact .nil
          | cons r _ ih => exact .cons r ih
        exact go this
    · cases e
theorem items_keys {es : Array DictEntry} {acc : Array Value} (h : ItemsOf (fun i v => ∃ hi : i < es.size, v = es[i].key) acc es.size) : acc.toList = es.toList.map (·.key) := by
  refine List.ext_getElem? fun i => ?_
  rw [Array.getElem?_toList, List.getElem?_map, Array.getElem?_toList]
  by_cases hi : i < es.size
  · have hi' : i < acc.size := by rw [h.1]; exact hi
    obtain ⟨_, e⟩ := h.2 i acc[i] (Array.getElem?_eq_getElem hi')
    rw [Array.getElem?_eq_getElem hi', Array.getElem?_eq_getElem hi, e]
    rfl
  · rw [Array.getElem?_eq_none (by rw [h.1]; omega), Array.getElem?_eq_none (by omega)]
    rfl
/-- list(d): tracked -/
def dListD : DRn := d1 fun d G Q => match keysD d G with
  | some ks => ∀ p, G p = none → Q (.ref p) (up G p (.lst ks))
  | none => False
theorem cd_listD (hc : X.calm = true) : CallD X (.type "list") dListD := calld1 fun pins s σ H G x v d P I rx hr q1 t => by
  split at t
  · rename_i ks e
    obtain ⟨a, es, ep, vs, rfl, hsys, raw, hsz, rv, qs, _⟩ := keysD_at I hr q1 e
    cases (show v = Value.ref a from rx)
    refine PySem.W.kdl_call (PySem.KdlSrc.rawDict hsys) (I.ok.hd hc) raw hsz fun h' tk acc c hk hS hacc => ?_
    have hp : H s.heap.objs.size = none := I.hok.fresh (Nat.le_refl _)
    have e2 := items_keys hacc
    have x2 : Ext H G (upd H s.heap.objs.size (.lst vs)) (up G s.heap.objs.size (.lst ks)) := .new hp
    have I' : Inv X pins σ (upd H s.heap.objs.size (.lst vs)) { s with heap := h', toks := tk } :=
      I.laid hk (Nat.le_refl _) ⟨by rw [rv.length, List.length_map, Array.length_toList]; exact hsz, acc.toList, c, by rw [e2]; exact rv, by rw [Array.toArray_toList]; exact hS⟩
    exact ⟨.ref _, .ref _, _, _, I', rfl, t _ (hr.free hp), x2, hr.new hp ⟨vs, upd_same, qs.ext hr x2⟩, by rw [VR]⟩
  · exact t.elim
/-- sorted(d): tracked -/
def dSortedD : DRn := d1 fun d G Q => match keysD d G with
  | some ks => (PySem.W.AllAlike (ks.map py) ∧ PySem.W.Sortable (ks.map py) ∧ ∀ d ∈ ks, (py d).depth ≤ 60) ∧ ∀ p, G p = none → Q (.ref p) (up G p (.lst (srt ks)))
  | none => False
theorem cd_sortedD (hu : X.A.units + 64 < cLine) (hc : X.calm = true) : CallD X (.builtin "sorted") dSortedD := calld1 fun pins s σ H G x v d P I rx hr q1 t => by
  split at t
  · rename_i ks e
    obtain ⟨⟨p2, p3, p4⟩, t⟩ := t
    obtain ⟨a, es, ep, vs, rfl, hsys, raw, hsz, rv, qs, rd⟩ := keysD_at I hr q1 e
    cases (show v = Value.ref a from rx)
    refine Calls.call_function_entry PyProof.Rows.kind_sorted PyProof.Rows.plain_sorted PyProof.Rows.entry_sorted (PyProof.Rows.args_sorted1 _) ?_
    unfold Builtin.«sorted»
    refine wpAny_bind (m := checkCount "sorted" 1 1 _) (wpAny_pure ?_)
    refine wpAny_bind (PySem.W.kdu_collect (A := X.A.in1) (PySem.KdlSrc.rawDict hsys) (I.ok.hd hc) raw hsz fun h' tk acc hk hacc => ?_)
    have e2 := items_keys hacc
    have rva : Vals vs acc.toList := by rw [e2]; exact rv
    have hal : acc.toList.length = ks.length := by rw [← rva.length, qs.length]
    have I1 : Inv X pins σ H { s with heap := h', toks := tk } := I.kept hk
    have hlen : acc.toList.length ≤ sizeLine := by rw [e2, List.length_map, Array.length_toList]; exact hsz
    refine wpAny_bind (wpAny_newList ?_ hlen)
    have hoL : (h'.push (seqObj "list" acc.toList.toArray 0)).get? h'.objs.size = some (seqObj "list" acc.toList.toArray 0) := Heap.get?_push_size _ rfl
    show wpAny _ _ _ _ _ { s with heap := h'.push (seqObj "list" acc.toList.toArray 0), toks := tk }
    have er : PySem.W.EachIs (fun v b => ∃ as, Reads (h'.push (seqObj "list" acc.toList.toArray 0)) v (py b) as ∧ h'.objs.size ∉ as) acc.toList ks := by
      rw [e2]
      exact rd.mono fun u b r => ⟨[], PyProof.Rows.Reads.keeps (fun b o q => Heap.get?_push_of_some _ (hk b o q)) r, by simp⟩
    refine wpAny_bind (wpAny_holding (PySem.W.list_sort_data (s := { s with heap := h'.push (seqObj "list" acc.toList.toArray 0), toks := tk }) (R := fun u d => ∃ v, RelV v u ∧ VR X.ml H G d v) (enc := py) (bs := ks) hoL (each_vr qs rva) er p2 p3 (by rw [← hal]; exact hlen) (fun b hb => by have := p4 b hb; show X.A.units + 1 + 1 + _ < _; omega) fun out ho eo => ?_))
    obtain ⟨ws, rw', qs'⟩ := each_back eo
    obtain ⟨e', he'⟩ := PyProof.Rows.sortedHeap_at (vs := acc.toList) (out := List.toArray out) hoL
    have hp : H h'.objs.size = none := I1.hok.fresh (Nat.le_refl _)
    have x2 : Ext H G (upd H h'.objs.size (.lst ws)) (up G h'.objs.size (.lst (srt ks))) := .new hp
    refine wpAny_pure ⟨_, rfl, .ref h'.objs.size, .ref h'.objs.size, upd H h'.objs.size (.lst ws), _, I1.laid (t' := tk) (fun b u e => ?_) (Nat.le_refl _)
      (show ObjOk X.prog X.w _ _ _ (.lst ws) from ⟨by rw [rw'.length, ho, ← hal]; exact hlen, out, e', rw', he'⟩), rfl, t _ (hr.free hp), x2, hr.new hp ⟨ws, upd_same, qs'.ext hr x2⟩, by rw [VR]⟩
    have hb : b < h'.objs.size := Heap.lt_size e
    rw [PyProof.Rows.sortedHeap_old (Nat.ne_of_lt hb) (by rw [size_push']; exact Nat.lt_succ_of_lt hb)]
    exact Heap.get?_push_of_some _ e
  · exact t.elim
end
end DL
namespace DL
open PySem PySem.Spec PyProof.Rows L2

/-! ### short names of operators -/
abbrev dSub : DR2 := i2 (fun _ _ => True) fun i j => .int (i - j)
abbrev dMul : DR2 := i2 CMul fun i j => .int (i * j)
abbrev dFdiv : DR2 := i2 CDiv fun i j => .int (i / j)
abbrev dMod : DR2 := i2 (fun _ j => 0 < j) fun i j => .int (i % j)
abbrev dPow : DR2 := i2 CPow fun i j => .int (i ^ j.toNat)
/-! ### what is meant -/
def eR (xs : List Int) : D := .nd .tup (xs.map .int)
def e2 (p : Int × Int) : D := .nd .tup [.int p.1, .int p.2]
def e3 (p : Int × Int × Int) : D := .nd .tup [.int p.1, .int p.2.1, .int p.2.2]
def eL {α : Type} (f : α → D) (xs : List α) : D := .nd .lst (xs.map f)
def eT {α : Type} (f : α → D) (xs : List α) : D := .nd .tup (xs.map f)
mutual
def clean : D → Bool
  | .non => true
  | .int _ => true
  | .nd .tup ds => cleans ds
  | .nd .lst ds => cleans ds
  | _ => false
def cleans : List D → Bool
  | [] => true
  | d :: ds => clean d && cleans ds
end
mutual
theorem clean_plain : ∀ {d : D}, clean d = true → plainD d = true
  | .non, _ => rfl
  | .int _, _ => rfl
  | .nd .tup ds, h => by rw [plainD]; rw [clean] at h; exact cleans_plain h
  | .nd .lst ds, h => by rw [plainD]; rw [clean] at h; exact cleans_plain h
  | .bl _, h => by simp [clean] at h
  | .str _, h => by simp [clean] at h
  | .ty _, h => by simp [clean] at h
  | .ref _, h => by simp [clean] at h
  | .nd .scr _, h => by simp [clean] at h
  | .nd (.ins _ _) _, h => by simp [clean] at h
  | .nd (.dK _) _, h => by simp [clean] at h
  | .nd (.dN _) _, h => by simp [clean] at h
theorem cleans_plain : ∀ {ds : List D}, cleans ds = true → plainDs ds = true
  | [], _ => rfl
  | d :: ds, h => by
    rw [cleans, Bool.and_eq_true] at h
    rw [plainDs, clean_plain h.1, cleans_plain h.2]; rfl
end
mutual
theorem clean_lay : ∀ {d : D}, clean d = true → PyData.canLay0 (py d) = true
  | .non, _ => by rw [py, PyData.canLay0]
  | .int _, _ => by rw [py, PyData.canLay0]
  | .nd .tup ds, h => by rw [py, PyData.canLay0]; rw [clean] at h; exact cleans_lay h
  | .nd .lst ds, h => by rw [py, PyData.canLay0]; rw [clean] at h; exact cleans_lay h
  | .bl _, h => by simp [clean] at h
  | .str _, h => by simp [clean] at h
  | .ty _, h => by simp [clean] at h
  | .ref _, h => by simp [clean] at h
  | .nd .scr _, h => by simp [clean] at h
  | .nd (.ins _ _) _, h => by simp [clean] at h
  | .nd (.dK _) _, h => by simp [clean] at h
  | .nd (.dN _) _, h => by simp [clean] at h
theorem cleans_lay : ∀ {ds : List D}, cleans ds = true → PyData.canLayAll0 (pys ds) = true
  | [], _ => by rw [pys, PyData.canLayAll0]
  | d :: ds, h => by
    rw [cleans, Bool.and_eq_true] at h
    rw [pys, PyData.canLayAll0, clean_lay h.1, cleans_lay h.2]; rfl
end
mutual
theorem clean_eq : ∀ {d e : D}, clean d = true → clean e = true → (PyData.eqv (py d) (py e) = true ↔ d = e)
  | .non, .non, _, _ => by simp [py, PyData.eqv]
  | .non, .int _, _, _ => by simp [py, PyData.eqv]
  | .non, .nd .tup _, _, _ => by simp [py, PyData.eqv]
  | .non, .nd .lst _, _, _ => by simp [py, PyData.eqv]
  | .int _, .non, _, _ => by simp [py, PyData.eqv]
  | .int i, .int j, _, _ => by simp [py, PyData.eqv]
  | .int _, .nd .tup _, _, _ => by simp [py, PyData.eqv]
  | .int _, .nd .lst _, _, _ => by simp [py, PyData.eqv]
  | .nd .tup _, .non, _, _ => by simp [py, PyData.eqv]
  | .nd .tup _, .int _, _, _ => by simp [py, PyData.eqv]
  | .nd .tup ds, .nd .tup es, h1, h2 => by
    rw [clean] at h1 h2
    rw [py, py, PyData.eqv, cleans_eq h1 h2]
    simp
  | .nd .tup _, .nd .lst _, _, _ => by simp [py, PyData.eqv]
  | .nd .lst _, .non, _, _ => by simp [py, PyData.eqv]
  | .nd .lst _, .int _, _, _ => by simp [py, PyData.eqv]
  | .nd .lst _, .nd .tup _, _, _ => by simp [py, PyData.eqv]
  | .nd .lst ds, .nd .lst es, h1, h2 => by
    rw [clean] at h1 h2
    rw [py, py, PyData.eqv, cleans_eq h1 h2]
    simp
  | .bl _, _, h, _ => by simp [clean] at h
  | .str _, _, h, _ => by simp [clean] at h
  | .ty _, _, h, _ => by simp [clean] at h
  | .ref _, _, h, _ => by simp [clean] at h
  | .nd .scr _, _, h, _ => by simp [clean] at h
  | .nd (.ins _ _) _, _, h, _ => by simp [clean] at h
  | .nd (.dK _) _, _, h, _ => by simp [clean] at h
  | .nd (.dN _) _, _, h, _ => by simp [clean] at h
  | _, .bl _, _, h => by simp [clean] at h
  | _, .str _, _, h => by simp [clean] at h
  | _, .ty _, _, h => by simp [clean] at h
  | _, .ref _, _, h => by simp [clean] at h
  | _, .nd .scr _, _, h => by simp [clean] at h
  | _, .nd (.ins _ _) _, _, h => by simp [clean] at h
  | _, .nd (.dK _) _, _, h => by simp [clean] at h
  | _, .nd (.dN _) _, _, h => by simp [clean] at h
theorem cleans_eq : ∀ {ds es : List D}, cleans ds = true → cleans es = true → (PyData.eqvAll (pys ds) (pys es) = true ↔ ds = es)
  | [], [], _, _ => by simp [pys, PyData.eqvAll]
  | [], _ :: _, _, _ => by simp [pys, PyData.eqvAll]
  | _ :: _, [], _, _ => by simp [pys, PyData.eqvAll]
  | d :: ds, e :: es, h1, h2 => by
    rw [cleans, Bool.and_eq_true] at h1 h2
    rw [pys, pys, PyData.eqvAll, Bool.and_eq_true, clean_eq h1.1 h2.1, cleans_eq h1.2 h2.2]
    simp
end
theorem cleans_all : ∀ ds : List D, cleans ds = ds.all clean
  | [] => rfl
  | d :: ds => by rw [cleans, cleans_all ds]; rfl
theorem cleans_map {α : Type} {f : α → D} (h : ∀ a, clean (f a) = true) (xs : List α) : cleans (xs.map f) = true := by
  rw [cleans_all, List.all_map, List.all_eq_true]
  intro x _; exact h x
theorem depthAll_le {B : Nat} : ∀ {ds : List D}, (∀ d ∈ ds, (py d).depth ≤ B) → PyData.depthAll (pys ds) ≤ B
  | [], _ => by rw [pys, PyData.depthAll]; exact Nat.zero_le _
  | d :: ds, h => by
    rw [pys, PyData.depthAll]
    have h1 := h d (by simp)
    have h2 := depthAll_le (B := B) (ds := ds) fun e he => h e (by simp [he])
    omega
theorem depth_lst {B : Nat} {ds : List D} (h : ∀ d ∈ ds, (py d).depth ≤ B) : (py (.nd .lst ds)).depth ≤ B + 1 := by
  rw [py, PyData.depth]; have := depthAll_le h; omega
theorem depth_tup {B : Nat} {ds : List D} (h : ∀ d ∈ ds, (py d).depth ≤ B) : (py (.nd .tup ds)).depth ≤ B + 1 := by
  rw [py, PyData.depth]; have := depthAll_le h; omega
theorem depth_int (i : Int) : (py (.int i)).depth = 0 := by rw [py, PyData.depth]
theorem shaped_of {d : D} (h : clean d = true) (h2 : (py d).depth ≤ 64) : SeqAt.shaped (py d) = true := by
  unfold SeqAt.shaped
  rw [clean_lay h, decide_eq_true h2]; rfl
theorem clean_int (i : Int) : clean (.int i) = true := rfl
theorem clean_e2 (p : Int × Int) : clean (e2 p) = true := rfl
theorem clean_e3 (p : Int × Int × Int) : clean (e3 p) = true := rfl
theorem clean_eL {α : Type} {f : α → D} (h : ∀ a, clean (f a) = true) (xs : List α) : clean (eL f xs) = true := by
  unfold eL; rw [clean]; exact cleans_map h xs
theorem clean_eT {α : Type} {f : α → D} (h : ∀ a, clean (f a) = true) (xs : List α) : clean (eT f xs) = true := by
  unfold eT; rw [clean]; exact cleans_map h xs
theorem depth_e2 (p : Int × Int) : (py (e2 p)).depth ≤ 1 := depth_tup (B := 0) fun d hd => by
  simp at hd; rcases hd with rfl | rfl <;> exact Nat.le_of_eq (depth_int _)
theorem depth_e3 (p : Int × Int × Int) : (py (e3 p)).depth ≤ 1 := depth_tup (B := 0) fun d hd => by
  simp at hd; rcases hd with rfl | rfl | rfl <;> exact Nat.le_of_eq (depth_int _)
theorem depth_eL {α : Type} {f : α → D} {B : Nat} (h : ∀ a, (py (f a)).depth ≤ B) (xs : List α) : (py (eL f xs)).depth ≤ B + 1 := depth_lst fun d hd => by
  obtain ⟨a, _, rfl⟩ := List.mem_map.mp hd; exact h a
theorem depth_eT {α : Type} {f : α → D} {B : Nat} (h : ∀ a, (py (f a)).depth ≤ B) (xs : List α) : (py (eT f xs)).depth ≤ B + 1 := depth_tup fun d hd => by
  obtain ⟨a, _, rfl⟩ := List.mem_map.mp hd; exact h a
theorem e2_inj {a b : Int × Int} : e2 a = e2 b ↔ a = b := by
  constructor
  · intro h; obtain ⟨a1, a2⟩ := a; obtain ⟨b1, b2⟩ := b
    simp [e2] at h; simp [h]
  · intro h; rw [h]
theorem e3_inj {a b : Int × Int × Int} : e3 a = e3 b ↔ a = b := by
  constructor
  · intro h; obtain ⟨a1, a2, a3⟩ := a; obtain ⟨b1, b2, b3⟩ := b
    simp [e3] at h; simp [h]
  · intro h; rw [h]
theorem map_inj {α : Type} {f : α → D} (h : ∀ {a b}, f a = f b ↔ a = b) : ∀ {xs ys : List α}, xs.map f = ys.map f ↔ xs = ys
  | [], [] => by simp
  | [], _ :: _ => by simp
  | _ :: _, [] => by simp
  | x :: xs, y :: ys => by simp [h, map_inj h (xs := xs) (ys := ys)]
theorem eL_inj {α : Type} {f : α → D} (h : ∀ {a b}, f a = f b ↔ a = b) {xs ys : List α} : eL f xs = eL f ys ↔ xs = ys := by
  unfold eL
  constructor
  · intro e; exact (map_inj h).mp (D.nd.inj e).2
  · intro e; rw [e]
theorem eT_inj {α : Type} {f : α → D} (h : ∀ {a b}, f a = f b ↔ a = b) {xs ys : List α} : eT f xs = eT f ys ↔ xs = ys := by
  unfold eT
  constructor
  · intro e; exact (map_inj h).mp (D.nd.inj e).2
  · intro e; rw [e]
/-! ### equality, membership, run -/
theorem run_eq {d e : D} {G : DHp} {Q : DVK} (h1 : clean (der d G) = true) (h2 : clean (der e G) = true) (d1 : (py (der d G)).depth ≤ 64) (d2 : (py (der e G)).depth ≤ 64) (b : Bool) (hb : b = true ↔ der d G = der e G) (h : Q (.bl b) G) : dEq d e G Q := by
  refine ⟨⟨clean_plain h1, clean_plain h2, shaped_of h1 d1, shaped_of h2 d2⟩, ?_⟩
  have : PyData.eqv (py (der d G)) (py (der e G)) = b := by
    rw [Bool.eq_iff_iff, clean_eq h1 h2]; exact hb.symm
  rw [this]; exact h
theorem run_ne {d e : D} {G : DHp} {Q : DVK} (h1 : clean (der d G) = true) (h2 : clean (der e G) = true) (d1 : (py (der d G)).depth ≤ 64) (d2 : (py (der e G)).depth ≤ 64) (b : Bool) (hb : b = true ↔ der d G ≠ der e G) (h : Q (.bl b) G) : dNe d e G Q := by
  refine ⟨⟨clean_plain h1, clean_plain h2, shaped_of h1 d1, shaped_of h2 d2⟩, ?_⟩
  have : (!PyData.eqv (py (der d G)) (py (der e G))) = b := by
    rw [Bool.eq_iff_iff, Bool.not_eq_true', hb, ← Bool.not_eq_true, clean_eq h1 h2]
  rw [this]; exact h
theorem any_clean {x : D} (hx : clean x = true) : ∀ {ds : List D}, cleans ds = true → (((pys ds).any fun z => PyData.eqv z (py x)) = true ↔ x ∈ ds)
  | [], _ => by simp [pys]
  | d :: ds, h => by
    rw [cleans, Bool.and_eq_true] at h
    rw [pys, List.any_cons, Bool.or_eq_true, clean_eq h.1 hx, any_clean hx h.2, List.mem_cons]
    constructor
    · rintro (h | h)
      · exact .inl h.symm
      · exact .inr h
    · rintro (h | h)
      · exact .inl h.symm
      · exact .inr h
theorem run_in {neg : Bool} {x y : D} {ds : List D} {G : DHp} {Q : DVK} (hy : der y G = .nd .lst ds ∨ der y G = .nd .tup ds) (hx : clean x = true) (hs : cleans ds = true) (dx : (py x).depth ≤ 64) (b : Bool) (hb : b = true ↔ x ∈ ds) (h : Q (.bl (neg != b)) G) : dIn neg x y G Q := by
  have e : ((pys ds).any fun z => PyData.eqv z (py x)) = b := by rw [Bool.eq_iff_iff, any_clean hx hs]; exact hb.symm
  unfold dIn
  rcases hy with hy | hy
  · rw [hy]
    exact ⟨⟨clean_plain hx, cleans_plain hs, shaped_of hx dx, cleans_lay hs⟩, by rw [e]; exact h⟩
  · rw [hy]
    exact ⟨⟨clean_plain hx, cleans_plain hs, shaped_of hx dx, cleans_lay hs⟩, by rw [e]; exact h⟩
/-- order of ints -/
theorem run_ord {g : PyData → PyData → Bool} {i j : Int} {G : DHp} {Q : DVK} (h : Q (.bl (g (.int i) (.int j))) G) : dOrd g (.int i) (.int j) G Q :=
  ⟨⟨rfl, rfl, by rw [py, py]; simp [PySem.W.alike], by rw [py]; exact (nomatch ·), by rw [depth_int]; exact Nat.zero_le _⟩, by rw [py, py]; exact h⟩
theorem lt_ii {i j : Int} : PySem.W.dataLt (.int i) (.int j) = decide (i < j) := PySem.W.dataLt_int i j
theorem run_ordE {g : PyData → PyData → Bool} {i j : Int} {G : DHp} {Q : DVK} : dOrd g (.int i) (.int j) G Q = Q (.bl (g (.int i) (.int j))) G := propext ⟨fun h => by
  have h := h.2
  rwa [py, py] at h, run_ord⟩
theorem not_lt_dec {i j : Int} : (!decide (j < i)) = decide (i ≤ j) := by rw [← decide_not]; exact decide_eq_decide.mpr (by omega)
theorem run_lt {i j : Int} {G : DHp} {Q : DVK} : dLt (.int i) (.int j) G Q = Q (.bl (decide (i < j))) G := by
  show dOrd _ _ _ _ _ = _
  rw [run_ordE, lt_ii]
theorem run_le {i j : Int} {G : DHp} {Q : DVK} : dLe (.int i) (.int j) G Q = Q (.bl (decide (i ≤ j))) G := by
  show dOrd _ _ _ _ _ = _
  rw [run_ordE]
  show Q (.bl (!PySem.W.dataLt (.int j) (.int i))) G = _
  rw [lt_ii, not_lt_dec]
theorem run_gt {i j : Int} {G : DHp} {Q : DVK} : dGt (.int i) (.int j) G Q = Q (.bl (decide (j < i))) G := by
  show dOrd _ _ _ _ _ = _
  rw [run_ordE]
  show Q (.bl (PySem.W.dataLt (.int j) (.int i))) G = _
  rw [lt_ii]
theorem run_ge {i j : Int} {G : DHp} {Q : DVK} : dGe (.int i) (.int j) G Q = Q (.bl (decide (j ≤ i))) G := by
  show dOrd _ _ _ _ _ = _
  rw [run_ordE]
  show Q (.bl (!PySem.W.dataLt (.int i) (.int j))) G = _
  rw [lt_ii, not_lt_dec]
theorem run_eqi {i j : Int} {G : DHp} {Q : DVK} : dEq (.int i) (.int j) G Q = Q (.bl (decide (i = j))) G := propext ⟨fun h => by
  have h := h.2
  rwa [show PyData.eqv (py (der (.int i) G)) (py (der (.int j) G)) = decide (i = j) by
    show PyData.eqv (py (.int i)) (py (.int j)) = _
    rw [py, py, PyData.eqv]; rfl] at h, fun h => run_eq rfl rfl (by show (py (.int i)).depth ≤ 64; rw [depth_int]; decide) (by show (py (.int j)).depth ≤ 64; rw [depth_int]; decide) _ (by
    show _ ↔ D.int i = D.int j
    simp) h⟩
theorem run_nei {i j : Int} {G : DHp} {Q : DVK} : dNe (.int i) (.int j) G Q = Q (.bl (!decide (i = j))) G := propext ⟨fun h => by
  have h := h.2
  rwa [show PyData.eqv (py (der (.int i) G)) (py (der (.int j) G)) = decide (i = j) by
    show PyData.eqv (py (.int i)) (py (.int j)) = _
    rw [py, py, PyData.eqv]; rfl] at h, fun h => run_ne rfl rfl (by show (py (.int i)).depth ≤ 64; rw [depth_int]; decide) (by show (py (.int j)).depth ≤ 64; rw [depth_int]; decide) _ (by
    show _ ↔ D.int i ≠ D.int j
    simp) h⟩
theorem run_addi {i j : Int} {G : DHp} {Q : DVK} : dAdd (.int i) (.int j) G Q = Q (.int (i + j)) G := rfl
theorem run_iaddi {i j : Int} {G : DHp} {Q : DVK} : dIAdd (.int i) (.int j) G Q = Q (.int (i + j)) G := rfl
/-! ### states that forget -/
theorem le_keep {o : Option D} {η η' : DSt} (h : Le η η') : Le (o :: η) (o :: η') := h.keep
theorem le_drop {o : Option D} {η η' : DSt} (h : Le η η') : Le (none :: η) (o :: η') := h.drop
theorem mul_small {i j : Int} (h : -1000000 ≤ i ∧ i ≤ 1000000) : CMul i j := .inl ⟨by omega, by omega⟩
theorem get_map {α : Type} {f : α → D} {xs : List α} {i : Nat} {d : D} (h : (xs.map f)[i]? = some d) : ∃ x, xs[i]? = some x ∧ d = f x := by
  rw [List.getElem?_map] at h
  cases e : xs[i]? with
  | none => rw [e] at h; cases h
  | some x => rw [e] at h; exact ⟨x, rfl, (Option.some.inj h).symm⟩
theorem take_snoc {α : Type} {xs : List α} {i : Nat} {x : α} (h : xs[i]? = some x) : xs.take (i + 1) = xs.take i ++ [x] := by
  rw [List.take_add_one, h]; rfl
end DL
namespace DL
open PySem PySem.Spec PyProof.Rows L2

/-! ### steps that come again and again -/
theorem small_line {n : Nat} (h : n ≤ 1000000) : n < sizeLine := by rw [sizeLine_eq]; omega
theorem run_app {xs : List D} {p : Addr} {y : D} {G : DHp} {Q : DVK} (e : G p = some (.lst xs)) (hl : xs.length < sizeLine) (q : Q .non (up G p (.lst (xs ++ [y])))) : tyD "list" (.ref p) G ∧ dAppend [.ref p, y] G Q := by
  refine ⟨by simp only [tyD, e], ?_⟩
  show onL (.ref p) G fun a ds => ds.length < sizeLine ∧ Q .non (up G a (.lst (ds ++ [y])))
  exact onL_of e ⟨hl, q⟩
theorem mem_range {lo hi x : Int} : x ∈ rangeL lo hi ↔ lo ≤ x ∧ x < hi := by
  unfold rangeL
  rw [List.mem_map]
  constructor
  · rintro ⟨k, hk, rfl⟩
    rw [List.mem_range] at hk
    omega
  · rintro ⟨h1, h2⟩
    exact ⟨(x - lo).toNat, by rw [List.mem_range]; omega, by omega⟩
theorem len_range (lo hi : Int) : (rangeL lo hi).length = (hi - lo).toNat := by
  unfold rangeL; rw [List.length_map, List.length_range]
theorem range_sorted (lo hi : Int) : (rangeL lo hi).Pairwise (· < ·) := by
  unfold rangeL
  exact List.pairwise_map.mpr (List.Pairwise.imp (fun h => by omega) List.pairwise_lt_range)
theorem range_nodup (lo hi : Int) : (rangeL lo hi).Nodup := List.Pairwise.imp (fun {a b} (h : a < b) => (by omega : a ≠ b)) (range_sorted lo hi)
theorem up3 {G : DHp} {a p : Addr} {x x' y : DO} (h : a ≠ p) : up (up (up G a x) p y) a x' = up (up G a x') p y := by
  rw [up_comm (G := up G a x) (a := p) (b := a) (Ne.symm h), up_up]
theorem atD_get {ds : List D} {i : Int} {d : D} {Q : D → Prop} (h0 : 0 ≤ i) (e : ds[i.toNat]? = some d) (q : Q d) : atD ds (.int i) Q := by
  have h : atI ds i = some d := by
    obtain ⟨k, rfl⟩ := Int.eq_ofNat_of_zero_le h0
    exact atI_nat (by simpa using e)
  show (match atI ds i with | some d => Q d | none => False)
  rw [h]; exact q

/-! ### typed dicts -/
section
variable {α β κ : Type} [DecidableEq α] [DecidableEq κ]
def aget (kvs : List (α × β)) (a : α) : Option β := (kvs.find? fun p => decide (p.1 = a)).map (·.2)
def aput (kvs : List (α × β)) (a : α) (b : β) : List (α × β) := if kvs.any fun p => decide (p.1 = a) then kvs.map fun p => if p.1 = a then (p.1, b) else p else kvs ++ [(a, b)]
def enc (k : α → κ) (f : β → D) (kvs : List (α × β)) : List (κ × D) := kvs.map fun p => (k p.1, f p.2)
theorem dval_enc {k : α → κ} {f : β → D} (hk : ∀ {a b}, k a = k b ↔ a = b) (kvs : List (α × β)) (a : α) : dval (enc k f kvs) (k a) = (aget kvs a).map f := by
  unfold dval aget enc
  induction kvs with
  | nil => rfl
  | cons p kvs ih =>
    by_cases e : p.1 = a
    · simp [e]
    · simpa [e, hk] using ih
theorem any_enc {k : α → κ} {f : β → D} (hk : ∀ {a b}, k a = k b ↔ a = b) (kvs : List (α × β)) (a : α) : ((enc k f kvs).any fun p => decide (p.1 = k a)) = kvs.any fun p => decide (p.1 = a) := by
  unfold enc
  rw [List.any_map]
  congr 1
  funext p
  exact decide_eq_decide.mpr hk
theorem dput_enc {k : α → κ} {f : β → D} (hk : ∀ {a b}, k a = k b ↔ a = b) (kvs : List (α × β)) (a : α) (b : β) : dput (enc k f kvs) (k a) (f b) = enc k f (aput kvs a b) := by
  unfold dput aput
  rw [any_enc hk]
  split
  · unfold enc
    rw [List.map_map, List.map_map]
    refine List.map_congr_left fun p _ => ?_
    by_cases e : p.1 = a
    · simp [e]
    · simp [e, hk]
  · unfold enc; simp
theorem aget_aput (kvs : List (α × β)) (a c : α) (b : β) : aget (aput kvs a b) c = if c = a then some b else aget kvs c := by
  have h1 : ∀ kvs : List (α × β), aget (kvs.map fun p => if p.1 = a then (p.1, b) else p) c = if c = a then (aget kvs c).map fun _ => b else aget kvs c := by
    intro kvs
    induction kvs with
    | nil => unfold aget; split <;> rfl
    | cons p kvs ih =>
      unfold aget at ih ⊢
      by_cases e : p.1 = a
      · by_cases e2 : c = a
        · subst e2; simp [e]
        · have : ¬ a = c := fun h => e2 h.symm
          simp [e, this, e2] at ih ⊢
          exact ih
      · by_cases e3 : p.1 = c
        · have : ¬ c = a := fun h => e (e3.trans h)
          simp [e, e3, this]
        · simp [e, e3] at ih ⊢
          exact ih
  have h2 : ∀ kvs : List (α × β), (kvs.any fun p => decide (p.1 = a)) = (aget kvs a).isSome := by
    intro kvs
    induction kvs with
    | nil => rfl
    | cons p kvs ih =>
      unfold aget at ih ⊢
      by_cases e : p.1 = a
      · simp [e]
      · simp only [List.any_cons, e, decide_false, Bool.false_or, List.find?_cons] ; exact ih
  unfold aput
  rw [h2]
  split
  · rename_i h
    rw [h1]
    by_cases e : c = a
    · subst e
      rw [if_pos rfl, if_pos rfl]
      obtain ⟨x, hx⟩ := Option.isSome_iff_exists.mp h
      rw [hx]; rfl
    · rw [if_neg e, if_neg e]
  · rename_i h
    have hn : aget kvs a = none := by simpa using h
    unfold aget at hn ⊢
    rw [List.find?_append]
    by_cases e : c = a
    · subst e
      have : kvs.find? (fun p => decide (p.1 = c)) = none := by simpa using hn
      simp [this]
    · have : ¬ a = c := fun h => e h.symm
      simp [e, this]
theorem aput_keys (kvs : List (α × β)) (a : α) (b : β) : ((aput kvs a b).map (·.1)) = if (aget kvs a).isSome then kvs.map (·.1) else kvs.map (·.1) ++ [a] := by
  have h2 : (kvs.any fun p => decide (p.1 = a)) = (aget kvs a).isSome := by
    induction kvs with
    | nil => rfl
    | cons p kvs ih =>
      unfold aget at ih ⊢
      by_cases e : p.1 = a
      · simp [e]
      · simp only [List.any_cons, e, decide_false, Bool.false_or, List.find?_cons] ; exact ih
  unfold aput
  rw [h2]
  split
  · rw [List.map_map]
    refine List.map_congr_left fun p _ => ?_
    simp only [Function.comp]
    split <;> rfl
  · simp
theorem aget_mem (kvs : List (α × β)) (a : α) : (aget kvs a).isSome ↔ a ∈ kvs.map (·.1) := by
  induction kvs with
  | nil => simp [aget]
  | cons p kvs ih =>
    unfold aget at ih ⊢
    by_cases e : p.1 = a
    · simp [e]
    · have : ¬ a = p.1 := fun h => e h.symm
      simp only [List.find?_cons, e, decide_false, List.map_cons, List.mem_cons, this, false_or]
      exact ih
theorem aput_len (kvs : List (α × β)) (a : α) (b : β) : (aput kvs a b).length ≤ kvs.length + 1 := by
  unfold aput; split <;> simp
theorem aput_nodup (kvs : List (α × β)) (a : α) (b : β) (h : (kvs.map (·.1)).Nodup) : ((aput kvs a b).map (·.1)).Nodup := by
  rw [aput_keys]
  split
  · exact h
  · rename_i hn
    rw [aget_mem] at hn
    rw [List.nodup_append]
    exact ⟨h, by simp, fun x hx y hy => by simp at hy; subst hy; exact fun e => hn (e ▸ hx)⟩
/-- kvs counts L -/
structure Cnt (kvs : List (α × Int)) (L : List α) : Prop where
  nd : (kvs.map (·.1)).Nodup
  at_ : ∀ a, aget kvs a = if L.count a = 0 then none else some (L.count a : Int)
  le : kvs.length ≤ L.length
theorem Cnt.nil : Cnt ([] : List (α × Int)) [] := ⟨List.nodup_nil, fun a => by simp [aget], Nat.le_refl _⟩
theorem Cnt.step {kvs : List (α × Int)} {L : List α} (h : Cnt kvs L) (a : α) : Cnt (aput kvs a ((aget kvs a).getD 0 + 1)) (L ++ [a]) := by
  refine ⟨aput_nodup _ _ _ h.nd, fun c => ?_, ?_⟩
  · rw [aget_aput, h.at_ a, h.at_ c, List.count_append]
    by_cases e : c = a
    · subst e
      rw [if_pos rfl]
      by_cases z : L.count c = 0
      · simp [z]
      · simp [z]
    · have e' : ¬ a = c := fun h => e h.symm
      rw [if_neg e]
      simp [e', List.count_singleton]
  · have := aput_len kvs a ((aget kvs a).getD 0 + 1)
    have := h.le
    rw [List.length_append, List.length_singleton]; omega
theorem Cnt.mem {kvs : List (α × Int)} {L : List α} (h : Cnt kvs L) (a : α) : a ∈ kvs.map (·.1) ↔ a ∈ L := by
  rw [← aget_mem, h.at_ a]
  by_cases z : L.count a = 0
  · simp [z, List.count_eq_zero.mp z]
  · simp only [z, if_false, Option.isSome_some, true_iff]
    exact List.count_pos_iff.mp (Nat.pos_of_ne_zero z)
end
def k2 (p : Int × Int) : NestedKey := .tup [.num p.1, .num p.2]
def k3 (p : Int × Int × Int) : NestedKey := .tup [.num p.1, .num p.2.1, .num p.2.2]
theorem k2_inj {a b : Int × Int} : k2 a = k2 b ↔ a = b := by
  obtain ⟨a1, a2⟩ := a; obtain ⟨b1, b2⟩ := b
  simp [k2]
theorem k3_inj {a b : Int × Int × Int} : k3 a = k3 b ↔ a = b := by
  obtain ⟨a1, a2, a3⟩ := a; obtain ⟨b1, b2, b3⟩ := b
  simp [k3]
theorem key_e2 (p : Int × Int) : D.key (e2 p) = some (k2 p) := by simp [e2, k2, D.key, D.keys]
theorem key_e3 (p : Int × Int × Int) : D.key (e3 p) = some (k3 p) := by simp [e3, k3, D.key, D.keys]
theorem dep_k2 (p : Int × Int) : (k2 p).depth ≤ 8 := by simp [k2, NestedKey.depth, NestedKey.depthAll]
theorem dep_k3 (p : Int × Int × Int) : (k3 p).depth ≤ 8 := by simp [k3, NestedKey.depth, NestedKey.depthAll]
theorem nkD_k2 (p : Int × Int) : nkD (k2 p) = e2 p := by simp [e2, k2, nkD, nkDs]
theorem nkD_k3 (p : Int × Int × Int) : nkD (k3 p) = e3 p := by simp [e3, k3, nkD, nkDs]

/-! ### draws -/
def drw (ns : List Int) (c : Int) : DO := .lst [.nd .scr (ns.map .int), .int c]
def sp__law_number : DRn := d2 fun s i G Q => ∃ (ns : List Int) (c : Int), s = .nd .scr (ns.map .int) ∧ i = .int c ∧ ns.length ≤ 63 ∧ ∀ r : Int, 0 ≤ r → Q (.int r) G
def sp__law_take : DRn := d2 fun dr m G Q => ∃ (a : Addr) (ns : List Int) (c n : Int), dr = .ref a ∧ m = .int n ∧ 0 < n ∧ ns.length ≤ 63 ∧ G a = some (drw ns c) ∧ ∀ r : Int, 0 ≤ r → r < n → Q (.int r) (up G a (drw ns (c + 1)))
theorem len__law_number : ∀ ds G Q, sp__law_number ds G Q → ds.length = 2 := fun ds G Q h => by
  match ds, h with
  | [_, _], _ => rfl
theorem len__law_take : ∀ ds G Q, sp__law_take ds G Q → ds.length = 2 := fun ds G Q h => by
  match ds, h with
  | [_, _], _ => rfl
abbrev N__law_number : List Str := ["script", "index", "cell", "far", "rest", "lap", "blend"]
def TL_num : DTS :=
    (dSeq (dFor (diRange1 (dCons (dOp dMod (dCB dInt (dCons (dName 3) dNil)) (dC (.int 60))) dNil)) (gdName 5)
    (dAsg (dOp dFdiv (dName 4) (dC (.int 1009))) (gdName 4)))
    (dSeq (dIfS (dTest (dOp dGt (dName 4) (dC (.int 0))))
    (dRet (dOp dMod (dCB dInt (dCons (dName 4) dNil)) (dC (.int 1009))))
    dNext)
    (dSeq (dAsg (dOp dMod (dOp dAdd (dOp dMul (dCB dInt (dCons (dOp dAdd (dName 2) (dOp dMul (dC (.int 977)) (dName 1))) dNil)) (dC (.int 48271))) (dOp dMul (dC (.int 31)) (dCB dLen (dCons (dName 0) dNil)))) (dC (.int 2147483647))) (gdName 6))
    (dSeq (dAsg (dOp dMod (dOp dAdd (dOp dMul (dName 6) (dName 6)) (dOp dMul (dC (.int 40503)) (dName 1))) (dC (.int 2147483629))) (gdName 6))
    (dRet (dCB dInt (dCons (dOp dMod (dOp dAdd (dOp dMul (dName 6) (dC (.int 69621))) (dOp dFdiv (dName 6) (dC (.int 977)))) (dC (.int 2147483587))) dNil)))))))
def T__law_number : DTS :=
    (dSeq (dAsg (dIf (dTest (dOp dNe (dName 0) (dLstF dNil))) (dTup (dCons (dOp dIx (dName 0) (dOp dMod (dName 1) (dCB dLen (dCons (dName 0) dNil)))) (dCons (dOp dFdiv (dName 1) (dCB dLen (dCons (dName 0) dNil))) dNil))) (dTup (dCons (dC (.int 12345)) (dCons (dC (.int 0)) dNil)))) (gdTup (gdCons (gdName 2) (gdCons (gdName 3) gdNil)) 2))
    (dSeq (dAsg (dIf (dTest (dOp dLt (dName 3) (dC (.int 60)))) (dOp dSub (dName 2) (dOp dPow (dC (.int 10)) (dC (.int 18)))) (dC (.int 0))) (gdName 4))
    TL_num))
abbrev N__law_take : List Str := ["draw", "many"]
def T__law_take : DTS :=
    (dSeq (dAugS (dName 0) (dC (.int 1)) (dC (.int 1)) dGetL dIAdd dSet)
    (dRet (dOp dMod (dCB dInt (dCons (dCB sp__law_number (dCons (dOp dIx (dName 0) (dC (.int 0))) (dCons (dCB dInt (dCons (dOp dIx (dName 0) (dC (.int 1))) dNil)) dNil))) dNil)) (dName 1))))
theorem plain_ints (ns : List Int) : plainDs (ns.map .int) = true := by
  induction ns with
  | nil => rfl
  | cons n ns ih => exact ih
theorem run_ne_scr {ns : List Int} {G : DHp} {Q : DVK} (h : Q (.bl (!ns.isEmpty)) G) : dNe (.nd .scr (ns.map .int)) (.nd .lst []) G Q := by
  have hc : cleans (ns.map D.int) = true := cleans_map (fun _ => rfl) ns
  have e1 : py (.nd .scr (ns.map .int)) = .list (pys (ns.map .int)) := by rw [py]
  have e2 : py (.nd .lst []) = .list [] := by rw [py, pys]
  refine ⟨⟨by show plainD (.nd .scr _) = true; rw [plainD]; exact plain_ints ns, rfl, ?_, ?_⟩, ?_⟩
  · show SeqAt.shaped (py (.nd .scr (ns.map .int))) = true
    rw [e1]
    unfold SeqAt.shaped
    have := depthAll_le (B := 0) (ds := ns.map D.int) fun d hd => by
      obtain ⟨i, _, rfl⟩ := List.mem_map.mp hd; exact Nat.le_of_eq (depth_int i)
    rw [PyData.canLay0, cleans_lay hc, PyData.depth, decide_eq_true (by omega)]; rfl
  · show SeqAt.shaped (py (.nd .lst [])) = true
    rw [e2]; decide
  · show Q (.bl (!PyData.eqv (py (.nd .scr (ns.map .int))) (py (.nd .lst [])))) G
    rw [e1, e2, PyData.eqv]
    cases ns with
    | nil => simpa [pys, PyData.eqvAll] using h
    | cons n ns => simpa [pys, PyData.eqvAll] using h
theorem run_len {d : D} {ds : List D} {G : DHp} {Q : DVK} (h : sqD d G = some ds) : dLen [d] G Q = Q (.int ds.length) G := by
  unfold dLen d1
  simp only [h]
theorem run_len_scr {ns : List Int} {G : DHp} {Q : DVK} : dLen [.nd .scr (ns.map .int)] G Q = Q (.int ns.length) G := by
  rw [run_len (ds := ns.map .int) rfl, List.length_map]
theorem run_inti {i : Int} {G : DHp} {Q : DVK} : dInt [.int i] G Q = Q (.int i) G := rfl
theorem run_tail {ns : List Int} {c cell far rest : Int} {G : DHp} {Q : DVK} (q : ∀ r : Int, 0 ≤ r → Q (.int r) G) :
    TL_num { nx := fun _ G' => Q .non G', rt := Q } [some (.nd .scr (ns.map .int)), some (.int c), some (.int cell), some (.int far), some (.int rest), none, none] G := by
  unfold TL_num
  refine ⟨(by show (0 : Int) < 60; decide), ⟨by omega, by omega⟩, fun i η G' => G' = G ∧ ∃ z : Int, η = [some (.nd .scr (ns.map .int)), some (.int c), some (.int cell), some (.int far), some (.int z), none, none], ⟨rfl, rest, rfl⟩, fun _ _ _ _ => trivial, ?_, ?_⟩
  · rintro i d η G' hd ⟨rfl, z, rfl⟩
    obtain ⟨x, hx, rfl⟩ := get_map hd
    simp only [dSeq, dIfS, dTest, dOp, dName, dC, dRet, dLstF, dCons, dNil, dTup, dNext, dAsg, dLstM, gdName, dDrop, dM, dM0, dIf, dAnd, dOr, dNot, dAndV, dOrV, dNotV, dChain, dFz, dRetF, dRetN, dBreak, dCont, dCB, gdTup, gdCons, gdNil, gdSub, dNeg, dAug, dAugS, dFrz, dPar, dNoPart, dPart, dSlice, dYes, wipeD, i2, d1, d2, d3, startD, List.map_cons, List.map_nil, List.length_cons, List.length_nil, List.cons_append, List.nil_append, List.append_nil, List.getElem?_cons_zero, List.getElem?_cons_succ, List.getElem?_nil, List.replicate, List.set_cons_succ, List.set_cons_zero, Nat.reduceAdd, Nat.reduceSub, Nat.reduceLeDiff, run_eqi, run_nei, run_lt, run_le, run_gt, run_ge, run_addi, run_iaddi, true_and, and_true, Bool.not_eq_true, Bool.not_true, Bool.not_false, if_true, if_false, Bool.false_eq_true, ite_true, ite_false, reduceIte, reduceCtorEq, decide_eq_true_eq, decide_eq_false_iff_not]
    exact ⟨⟨by decide, by decide⟩, _, (by repeat (first | exact Le.nil | apply Le.keep | apply Le.drop)), rfl, _, rfl⟩
  · rintro η G' ⟨rfl, z, rfl⟩
    simp only [run_len_scr, run_inti, dSeq, dIfS, dTest, dOp, dName, dC, dRet, dLstF, dCons, dNil, dTup, dNext, dAsg, dLstM, gdName, dDrop, dM, dM0, dIf, dAnd, dOr, dNot, dAndV, dOrV, dNotV, dChain, dFz, dRetF, dRetN, dBreak, dCont, dCB, gdTup, gdCons, gdNil, gdSub, dNeg, dAug, dAugS, dFrz, dPar, dNoPart, dPart, dSlice, dYes, wipeD, i2, d1, d2, d3, startD, List.map_cons, List.map_nil, List.length_cons, List.length_nil, List.cons_append, List.nil_append, List.append_nil, List.getElem?_cons_zero, List.getElem?_cons_succ, List.getElem?_nil, List.replicate, List.set_cons_succ, List.set_cons_zero, Nat.reduceAdd, Nat.reduceSub, Nat.reduceLeDiff, run_eqi, run_nei, run_lt, run_le, run_gt, run_ge, run_addi, run_iaddi, true_and, and_true, Bool.not_eq_true, Bool.not_true, Bool.not_false, if_true, if_false, Bool.false_eq_true, ite_true, ite_false, reduceIte, reduceCtorEq, decide_eq_true_eq, decide_eq_false_iff_not]
    split
    · exact ⟨by decide, q _ (Int.emod_nonneg _ (by decide))⟩
    · refine ⟨.inl ⟨by decide, by decide⟩, .inr ⟨by decide, by decide⟩, .inl ⟨by decide, by decide⟩, by decide, ?_⟩
      have hb := Int.emod_nonneg ((cell + 977 * c) * 48271 + 31 * (ns.length : Int)) (show (2147483647 : Int) ≠ 0 by decide)
      have hb2 := Int.emod_lt_of_pos ((cell + 977 * c) * 48271 + 31 * (ns.length : Int)) (show (0 : Int) < 2147483647 by decide)
      generalize ((cell + 977 * c) * 48271 + 31 * (ns.length : Int)) % 2147483647 = b at hb hb2 ⊢
      refine ⟨.inl ⟨by omega, by omega⟩, .inl ⟨by decide, by decide⟩, by decide, ?_⟩
      refine ⟨.inr ⟨by decide, by decide⟩, ⟨by decide, by decide⟩, by decide, q _ (Int.emod_nonneg _ (by decide))⟩
theorem run_ix_scr {ns : List Int} {i : Int} {G : DHp} {Q : DVK} (h0 : 0 ≤ i) (h1 : i < ns.length) (h : ∀ z : Int, Q (.int z) G) : dIx (.nd .scr (ns.map .int)) (.int i) G Q := by
  show atD (ns.map .int) (.int i) fun d => Q d G
  have hi : i.toNat < (ns.map D.int).length := by rw [List.length_map]; omega
  refine atD_get h0 (d := (ns.map D.int)[i.toNat]) (List.getElem?_eq_getElem hi) ?_
  rw [List.getElem_map]
  exact h _
theorem run__law_number : ∀ ds G Q, sp__law_number ds G Q → T__law_number { nx := fun _ G' => Q .non G', rt := Q } (startD N__law_number ds) G := fun ds G Q h => by
  match ds, h with
  | [_, _], ⟨ns, c, rfl, rfl, hl, q⟩ =>
    simp only [T__law_number, N__law_number, run_len_scr, run_inti, dSeq, dIfS, dTest, dOp, dName, dC, dRet, dLstF, dCons, dNil, dTup, dNext, dAsg, dLstM, gdName, dDrop, dM, dM0, dIf, dAnd, dOr, dNot, dAndV, dOrV, dNotV, dChain, dFz, dRetF, dRetN, dBreak, dCont, dCB, gdTup, gdCons, gdNil, gdSub, dNeg, dAug, dAugS, dFrz, dPar, dNoPart, dPart, dSlice, dYes, wipeD, i2, d1, d2, d3, startD, List.map_cons, List.map_nil, List.length_cons, List.length_nil, List.cons_append, List.nil_append, List.append_nil, List.getElem?_cons_zero, List.getElem?_cons_succ, List.getElem?_nil, List.replicate, List.set_cons_succ, List.set_cons_zero, Nat.reduceAdd, Nat.reduceSub, Nat.reduceLeDiff, run_eqi, run_nei, run_lt, run_le, run_gt, run_ge, run_addi, run_iaddi, true_and, and_true, Bool.not_eq_true, Bool.not_true, Bool.not_false, if_true, if_false, Bool.false_eq_true, ite_true, ite_false, reduceIte, reduceCtorEq, decide_eq_true_eq, decide_eq_false_iff_not]
    refine run_ne_scr ?_
    simp only [run_len_scr, run_inti, dSeq, dIfS, dTest, dOp, dName, dC, dRet, dLstF, dCons, dNil, dTup, dNext, dAsg, dLstM, gdName, dDrop, dM, dM0, dIf, dAnd, dOr, dNot, dAndV, dOrV, dNotV, dChain, dFz, dRetF, dRetN, dBreak, dCont, dCB, gdTup, gdCons, gdNil, gdSub, dNeg, dAug, dAugS, dFrz, dPar, dNoPart, dPart, dSlice, dYes, wipeD, i2, d1, d2, d3, startD, List.map_cons, List.map_nil, List.length_cons, List.length_nil, List.cons_append, List.nil_append, List.append_nil, List.getElem?_cons_zero, List.getElem?_cons_succ, List.getElem?_nil, List.replicate, List.set_cons_succ, List.set_cons_zero, Nat.reduceAdd, Nat.reduceSub, Nat.reduceLeDiff, run_eqi, run_nei, run_lt, run_le, run_gt, run_ge, run_addi, run_iaddi, true_and, and_true, Bool.not_eq_true, Bool.not_true, Bool.not_false, if_true, if_false, Bool.false_eq_true, ite_true, ite_false, reduceIte, reduceCtorEq, decide_eq_true_eq, decide_eq_false_iff_not]
    split
    · rename_i hne
      have hp : 0 < ns.length := by
        cases ns with
        | nil => simp at hne
        | cons _ _ => simp
      refine ⟨by omega, run_ix_scr (Int.emod_nonneg _ (by omega)) (Int.emod_lt_of_pos _ (by omega)) fun z => ⟨⟨by omega, by omega⟩, ?_⟩⟩
      split
      · exact ⟨⟨by decide, by decide, by decide⟩, trivial, run_tail q⟩
      · exact run_tail q
    · split
      · exact ⟨⟨by decide, by decide, by decide⟩, run_tail q⟩
      · exact run_tail q
theorem run__law_take : ∀ ds G Q, sp__law_take ds G Q → T__law_take { nx := fun _ G' => Q .non G', rt := Q } (startD N__law_take ds) G := fun ds G Q h => by
  match ds, h with
  | [_, _], ⟨a, ns, c, n, rfl, rfl, hn, hl, hG, q⟩ =>
    simp only [T__law_take, N__law_take, dSeq, dIfS, dTest, dOp, dName, dC, dRet, dLstF, dCons, dNil, dTup, dNext, dAsg, dLstM, gdName, dDrop, dM, dM0, dIf, dAnd, dOr, dNot, dAndV, dOrV, dNotV, dChain, dFz, dRetF, dRetN, dBreak, dCont, dCB, gdTup, gdCons, gdNil, gdSub, dNeg, dAug, dAugS, dFrz, dPar, dNoPart, dPart, dSlice, dYes, wipeD, i2, d1, d2, d3, startD, List.map_cons, List.map_nil, List.length_cons, List.length_nil, List.cons_append, List.nil_append, List.append_nil, List.getElem?_cons_zero, List.getElem?_cons_succ, List.getElem?_nil, List.replicate, List.set_cons_succ, List.set_cons_zero, Nat.reduceAdd, Nat.reduceSub, Nat.reduceLeDiff, run_eqi, run_nei, run_lt, run_le, run_gt, run_ge, run_addi, run_iaddi, true_and, and_true, Bool.not_eq_true, Bool.not_true, Bool.not_false, if_true, if_false, Bool.false_eq_true, ite_true, ite_false, reduceIte, reduceCtorEq, decide_eq_true_eq, decide_eq_false_iff_not]
    have e1 : der (.ref a) G = .nd .lst [.nd .scr (ns.map .int), .int c] := der_lt hG
    show dGetL (.ref a) (.int 1) G _
    unfold dGetL
    rw [e1]
    refine atD_get (by decide) rfl ?_
    simp only [dSeq, dIfS, dTest, dOp, dName, dC, dRet, dLstF, dCons, dNil, dTup, dNext, dAsg, dLstM, gdName, dDrop, dM, dM0, dIf, dAnd, dOr, dNot, dAndV, dOrV, dNotV, dChain, dFz, dRetF, dRetN, dBreak, dCont, dCB, gdTup, gdCons, gdNil, gdSub, dNeg, dAug, dAugS, dFrz, dPar, dNoPart, dPart, dSlice, dYes, wipeD, i2, d1, d2, d3, startD, List.map_cons, List.map_nil, List.length_cons, List.length_nil, List.cons_append, List.nil_append, List.append_nil, List.getElem?_cons_zero, List.getElem?_cons_succ, List.getElem?_nil, List.replicate, List.set_cons_succ, List.set_cons_zero, Nat.reduceAdd, Nat.reduceSub, Nat.reduceLeDiff, run_eqi, run_nei, run_lt, run_le, run_gt, run_ge, run_addi, run_iaddi, true_and, and_true, Bool.not_eq_true, Bool.not_true, Bool.not_false, if_true, if_false, Bool.false_eq_true, ite_true, ite_false, reduceIte, reduceCtorEq, decide_eq_true_eq, decide_eq_false_iff_not]
    have e2 : up G a (.lst ([D.nd .scr (ns.map .int), .int c].set 1 (.int (c + 1)))) = up G a (drw ns (c + 1)) := rfl
    have hs : ∀ R, R (up G a (drw ns (c + 1))) → dSet (.ref a) (.int 1) (.int (c + 1)) G R := fun R h => by
      show (match G a with | some (.lst ds) => _ | some (.dN kvs) => _ | some (.dK kvs) => _ | _ => False)
      rw [hG]
      exact h
    refine hs _ ?_
    have e3 : der (.ref a) (up G a (drw ns (c + 1))) = .nd .lst [.nd .scr (ns.map .int), .int (c + 1)] := der_lt up_same
    have hix : ∀ (i : Int) (d : D) R, 0 ≤ i → [D.nd .scr (ns.map .int), .int (c + 1)][i.toNat]? = some d → R d (up G a (drw ns (c + 1))) → dIx (.ref a) (.int i) (up G a (drw ns (c + 1))) R := fun i d R h0 h1 h => by
      unfold dIx
      rw [e3]
      exact atD_get h0 h1 h
    refine hix 0 _ _ (by decide) rfl ?_
    refine hix 1 _ _ (by decide) rfl ?_
    simp only [run_inti, dSeq, dIfS, dTest, dOp, dName, dC, dRet, dLstF, dCons, dNil, dTup, dNext, dAsg, dLstM, gdName, dDrop, dM, dM0, dIf, dAnd, dOr, dNot, dAndV, dOrV, dNotV, dChain, dFz, dRetF, dRetN, dBreak, dCont, dCB, gdTup, gdCons, gdNil, gdSub, dNeg, dAug, dAugS, dFrz, dPar, dNoPart, dPart, dSlice, dYes, wipeD, i2, d1, d2, d3, startD, List.map_cons, List.map_nil, List.length_cons, List.length_nil, List.cons_append, List.nil_append, List.append_nil, List.getElem?_cons_zero, List.getElem?_cons_succ, List.getElem?_nil, List.replicate, List.set_cons_succ, List.set_cons_zero, Nat.reduceAdd, Nat.reduceSub, Nat.reduceLeDiff, run_eqi, run_nei, run_lt, run_le, run_gt, run_ge, run_addi, run_iaddi, true_and, and_true, Bool.not_eq_true, Bool.not_true, Bool.not_false, if_true, if_false, Bool.false_eq_true, ite_true, ite_false, reduceIte, reduceCtorEq, decide_eq_true_eq, decide_eq_false_iff_not]
    refine ⟨ns, c + 1, rfl, rfl, hl, fun r hr => ?_⟩
    simp only [run_inti, dSeq, dIfS, dTest, dOp, dName, dC, dRet, dLstF, dCons, dNil, dTup, dNext, dAsg, dLstM, gdName, dDrop, dM, dM0, dIf, dAnd, dOr, dNot, dAndV, dOrV, dNotV, dChain, dFz, dRetF, dRetN, dBreak, dCont, dCB, gdTup, gdCons, gdNil, gdSub, dNeg, dAug, dAugS, dFrz, dPar, dNoPart, dPart, dSlice, dYes, wipeD, i2, d1, d2, d3, startD, List.map_cons, List.map_nil, List.length_cons, List.length_nil, List.cons_append, List.nil_append, List.append_nil, List.getElem?_cons_zero, List.getElem?_cons_succ, List.getElem?_nil, List.replicate, List.set_cons_succ, List.set_cons_zero, Nat.reduceAdd, Nat.reduceSub, Nat.reduceLeDiff, run_eqi, run_nei, run_lt, run_le, run_gt, run_ge, run_addi, run_iaddi, true_and, and_true, Bool.not_eq_true, Bool.not_true, Bool.not_false, if_true, if_false, Bool.false_eq_true, ite_true, ite_false, reduceIte, reduceCtorEq, decide_eq_true_eq, decide_eq_false_iff_not]
    exact ⟨hn, q _ (Int.emod_nonneg _ (by omega)) (Int.emod_lt_of_pos _ hn)⟩
/-- a draw -/
theorem run_take {a : Addr} {ns : List Int} {c n : Int} {G : DHp} {Q : DVK} (hn : 0 < n) (hl : ns.length ≤ 63) (hG : G a = some (drw ns c)) (q : ∀ r : Int, 0 ≤ r → r < n → Q (.int r) (up G a (drw ns (c + 1)))) : sp__law_take [.ref a, .int n] G Q :=
  ⟨a, ns, c, n, rfl, rfl, hn, hl, hG, q⟩
end DL
namespace DL
open PySem PySem.Spec PyProof.Rows L2

/-! ### a dict that is changed no more; its rules -/
section
variable {α β : Type} [DecidableEq α]
def eD (k : α → NestedKey) (f : β → D) (kvs : List (α × β)) : D := .nd (.dN ((enc k f kvs).map (·.1))) ((enc k f kvs).map (·.2))
theorem tree_eD (k : α → NestedKey) (f : β → D) (kvs : List (α × β)) : DO.tree (.dN (enc k f kvs)) = eD k f kvs := rfl
theorem dicN_eD (k : α → NestedKey) (f : β → D) (kvs : List (α × β)) (G : DHp) : dicN (eD k f kvs) G = some (enc k f kvs) := by
  show some (((enc k f kvs).map (·.1)).zip ((enc k f kvs).map (·.2))) = _
  rw [zip_maps]
theorem dicN_ref {k : α → NestedKey} {f : β → D} {kvs : List (α × β)} {G : DHp} {p : Addr} (e : G p = some (.dN (enc k f kvs))) : dicN (.ref p) G = some (enc k f kvs) := by
  show (match G p with | some (.dN kvs) => some kvs | _ => none) = _
  rw [e]
/-- a key that is a tuple -/
structure TKey (k : α → NestedKey) (e : α → D) : Prop where
  inj : ∀ {a b}, k a = k b ↔ a = b
  shp : ∀ a, ∃ ks, e a = .nd .tup ks
  key : ∀ a, D.key (e a) = some (k a)
  dep : ∀ a, (k a).depth ≤ 8
  nk : ∀ a, nkD (k a) = e a
theorem tk2 : TKey k2 e2 := ⟨k2_inj, fun _ => ⟨_, rfl⟩, key_e2, dep_k2, nkD_k2⟩
theorem tk3 : TKey k3 e3 := ⟨k3_inj, fun _ => ⟨_, rfl⟩, key_e3, dep_k3, nkD_k3⟩
variable {k : α → NestedKey} {e : α → D} {f : β → D} {kvs : List (α × β)} {G : DHp} {Q : DVK} {a : α}
theorem run_get2 (T : TKey k e) {x z : D} (h : dicN x G = some (enc k f kvs)) (q : Q (((aget kvs a).map f).getD z) G) : dGet2 [x, e a, z] G Q := by
  obtain ⟨ks, ek⟩ := T.shp a
  show (match dicN x G with | some kvs => _ | none => _)
  rw [h]
  show (match e a with | .nd .tup ks => _ | _ => False)
  have hk := T.key a
  rw [ek] at hk ⊢
  show (match D.key (.nd .tup ks) with | some k => _ | none => False)
  rw [hk]
  refine ⟨T.dep a, ?_⟩
  rw [dval_enc T.inj]
  exact q
theorem run_getI (T : TKey k e) {kvs : List (α × Int)} {x : D} {z : Int} (h : dicN x G = some (enc k .int kvs)) (ty : tyD "dict" x G) (q : Q (.int ((aget kvs a).getD z)) G) : tyD "dict" x G ∧ dGet2 [x, e a, .int z] G Q := by
  refine ⟨ty, run_get2 T h ?_⟩
  rw [show ((aget kvs a).map D.int).getD (.int z) = .int ((aget kvs a).getD z) by cases aget kvs a <;> rfl]
  exact q
theorem ty_ref {kvs : List (NestedKey × D)} {p : Addr} (h : G p = some (.dN kvs)) : tyD "dict" (.ref p) G := by simp only [tyD, h]
theorem run_set (T : TKey k e) {p : Addr} {b : β} {R : DHp → Prop} (h : G p = some (.dN (enc k f kvs))) (hl : kvs.length < sizeLine) (q : R (up G p (.dN (enc k f (aput kvs a b))))) : dSet (.ref p) (e a) (f b) G R := by
  obtain ⟨ks, ek⟩ := T.shp a
  show (match G p with | some (.lst ds) => _ | some (.dN kvs) => _ | some (.dK kvs) => _ | _ => False)
  rw [h]
  show (match e a with | .nd .tup ks => _ | _ => False)
  have hk := T.key a
  rw [ek] at hk ⊢
  show (match D.key (.nd .tup ks) with | some k => _ | none => False)
  rw [hk]
  refine ⟨⟨T.dep a, by unfold enc; rw [List.length_map]; exact hl⟩, ?_⟩
  rw [dput_enc T.inj]
  exact q
theorem run_inD (T : TKey k e) {neg : Bool} {y : D} (h : dicN y G = some (enc k f kvs)) (q : Q (.bl (neg != (aget kvs a).isSome)) G) : dIn neg (e a) y G Q := by
  obtain ⟨ks, ek⟩ := T.shp a
  have hk := T.key a
  have hd : ∀ ds, der y G ≠ .nd .lst ds ∧ der y G ≠ .nd .tup ds := fun ds => by
    cases y with
    | ref p =>
      have h' : (match G p with | some (.dN kvs) => some kvs | _ => none) = some (enc k f kvs) := h
      cases g : G p with
      | none => rw [g] at h'; cases h'
      | some o =>
        rw [g] at h'
        cases o with
        | dN kk => rw [der_ref, g]; exact ⟨(nomatch ·), (nomatch ·)⟩
        | _ => cases h'
    | nd kd es =>
      cases kd with
      | dN _ => exact ⟨(nomatch ·), (nomatch ·)⟩
      | _ => cases h
    | _ => cases h
  unfold dIn
  split
  · rename_i ds he; exact ((hd ds).1 he).elim
  · rename_i ds he; exact ((hd ds).2 he).elim
  · rw [h]
    show (match e a with | .nd .tup ks => _ | _ => False)
    rw [ek] at hk ⊢
    show (match D.key (.nd .tup ks) with | some k => _ | none => False)
    rw [hk]
    refine ⟨T.dep a, ?_⟩
    rw [dval_enc T.inj, Option.isSome_map]
    exact q
end
/-! ### sorting -/
def srtT {α : Type} (f : α → D) (xs : List α) : List α := xs.mergeSort fun a b => PySem.W.dataLe false py (f a) (f b)
theorem srt_map {α : Type} (f : α → D) (xs : List α) : srt (xs.map f) = (srtT f xs).map f := by
  unfold srt srtT
  exact (List.map_mergeSort (r := fun a b => PySem.W.dataLe false py (f a) (f b)) (s := PySem.W.dataLe false py) (f := f) (l := xs) fun a _ b _ => rfl).symm
theorem srtT_perm {α : Type} (f : α → D) (xs : List α) : (srtT f xs).Perm xs := List.mergeSort_perm _ _
theorem run_sorted {α : Type} {f : α → D} {d : D} {xs : List α} {G : DHp} {Q : DVK} (h : lsD d G = some (xs.map f)) (hp : ∀ a, clean (f a) = true) (al : ∀ a b, PySem.W.alike (py (f a)) (py (f b)) = true) (st : PySem.W.Sortable ((xs.map f).map py)) (dp : ∀ a, (py (f a)).depth ≤ 60)
    (q : ∀ p, G p = none → Q (.ref p) (up G p (.lst ((srtT f xs).map f)))) : dSorted [d] G Q := by
  show (match lsD d G with | some ds => _ | none => False)
  rw [h]
  refine ⟨⟨cleans_plain (cleans_map hp xs), ?_, st, fun d hd => ?_⟩, fun p hn => by rw [srt_map]; exact q p hn⟩
  · rw [List.map_map]; exact PySem.W.AllAlike.of al
  · obtain ⟨a, _, rfl⟩ := List.mem_map.mp hd; exact dp a
theorem run_sortedD {α β : Type} [DecidableEq α] {k : α → NestedKey} {e : α → D} {f : β → D} (T : TKey k e) {d : D} {kvs : List (α × β)} {G : DHp} {Q : DVK} (h : dicN d G = some (enc k f kvs)) (al : ∀ a b, PySem.W.alike (py (e a)) (py (e b)) = true) (st : PySem.W.Sortable (((kvs.map (·.1)).map e).map py)) (dp : ∀ a, (py (e a)).depth ≤ 60)
    (q : ∀ p, G p = none → Q (.ref p) (up G p (.lst ((srtT e (kvs.map (·.1))).map e)))) : dSortedD [d] G Q := by
  have hk : keysD d G = some ((kvs.map (·.1)).map e) := by
    unfold keysD
    rw [h]
    unfold enc
    show some (List.map (fun p => nkD p.1) (List.map (fun p => (k p.1, f p.2)) kvs)) = _
    rw [List.map_map, List.map_map]
    congr 1
    exact List.map_congr_left fun p _ => T.nk p.1
  show (match keysD d G with | some ks => _ | none => False)
  rw [hk]
  refine ⟨⟨?_, st, fun d hd => ?_⟩, fun p hn => by rw [srt_map]; exact q p hn⟩
  · rw [List.map_map]; exact PySem.W.AllAlike.of al
  · obtain ⟨a, _, rfl⟩ := List.mem_map.mp hd; exact dp a
theorem al2 (a b : Int × Int) : PySem.W.alike (py (e2 a)) (py (e2 b)) = true := by simp [e2, py, pys, PySem.W.alike, PySem.W.alikeAll]
theorem al3 (a b : Int × Int × Int) : PySem.W.alike (py (e3 a)) (py (e3 b)) = true := by simp [e3, py, pys, PySem.W.alike, PySem.W.alikeAll]
theorem st2 (xs : List (Int × Int)) : PySem.W.Sortable ((xs.map e2).map py) := by
  rw [List.map_map]
  exact PySem.W.Sortable.tuples fun b => ⟨.int b.1, [.int b.2], by simp [e2, py, pys]⟩
theorem st3 (xs : List (Int × Int × Int)) : PySem.W.Sortable ((xs.map e3).map py) := by
  rw [List.map_map]
  exact PySem.W.Sortable.tuples fun b => ⟨.int b.1, [.int b.2.1, .int b.2.2], by simp [e3, py, pys]⟩
/-- the order of tuples of ints -/
theorem le_ints (xs ys : List Int) : (!PySem.W.dataLt (.tuple (ys.map .int)) (.tuple (xs.map .int))) = decide (xs ≤ ys) := by
  rw [PySem.W.dataLt_tuple]
  have := PySem.W.dataLt_ints ys xs
  have h2 : PyProof.Rows.lexLt itemOrd (PySem.W.keyToksAll (ys.map .int)) (PySem.W.keyToksAll (xs.map .int)) = decide (ys < xs) := this
  rw [h2, ← decide_not]
  exact decide_eq_decide.mpr Iff.rfl
theorem le_e2 (a b : Int × Int) : PySem.W.dataLe false py (e2 a) (e2 b) = decide ([a.1, a.2] ≤ [b.1, b.2]) := by
  rw [← le_ints, PySem.W.dataLe_eq]
  simp [e2, py, pys]
theorem le_e3 (a b : Int × Int × Int) : PySem.W.dataLe false py (e3 a) (e3 b) = decide ([a.1, a.2.1, a.2.2] ≤ [b.1, b.2.1, b.2.2]) := by
  rw [← le_ints, PySem.W.dataLe_eq]
  simp [e3, py, pys]
/-- two sortings of the same are the same -/
theorem sorted_unique {α : Type} {le : α → α → Bool} (anti : ∀ a b, le a b = true → le b a = true → a = b) : ∀ {xs ys : List α}, xs.Perm ys → xs.Pairwise (fun a b => le a b = true) → ys.Pairwise (fun a b => le a b = true) → xs = ys
  | [], ys, p, _, _ => (List.Perm.nil_eq p)
  | x :: xs, [], p, _, _ => absurd p.length_eq (by simp)
  | x :: xs, y :: ys, p, hx, hy => by
    rw [List.pairwise_cons] at hx hy
    have e : x = y := by
      have m1 : x ∈ y :: ys := p.subset (by simp)
      have m2 : y ∈ x :: xs := p.symm.subset (by simp)
      rcases List.mem_cons.mp m1 with e | m1
      · exact e
      · rcases List.mem_cons.mp m2 with e | m2
        · exact e.symm
        · exact anti _ _ (hx.1 y m2) (hy.1 x m1)
    subst e
    rw [sorted_unique anti ((List.perm_cons x).mp p) hx.2 hy.2]
theorem srtT_eq {α : Type} {f : α → D} {g : α → List Int} (hf : ∀ a b, PySem.W.dataLe false py (f a) (f b) = decide (g a ≤ g b)) (gi : ∀ a b, g a = g b → a = b) {xs ys : List α} (p : xs.Perm ys) : srtT f xs = srtT f ys := by
  have tr : ∀ a b c : α, PySem.W.dataLe false py (f a) (f b) = true → PySem.W.dataLe false py (f b) (f c) = true → PySem.W.dataLe false py (f a) (f c) = true := fun a b c h1 h2 => by
    rw [hf, decide_eq_true_eq] at *
    exact List.le_trans h1 h2
  have tot : ∀ a b : α, (PySem.W.dataLe false py (f a) (f b) || PySem.W.dataLe false py (f b) (f a)) = true := fun a b => by
    rw [hf, hf, Bool.or_eq_true, decide_eq_true_eq, decide_eq_true_eq]
    exact List.le_total _ _
  refine sorted_unique (le := fun a b => PySem.W.dataLe false py (f a) (f b)) (fun a b h1 h2 => ?_) ((srtT_perm f xs).trans (p.trans (srtT_perm f ys).symm)) ?_ ?_
  · rw [hf, decide_eq_true_eq] at h1 h2
    exact gi _ _ (List.le_antisymm h1 h2)
  · exact List.pairwise_mergeSort tr tot xs
  · exact List.pairwise_mergeSort tr tot ys
theorem srtT_id {α : Type} {f : α → D} {g : α → List Int} (hf : ∀ a b, PySem.W.dataLe false py (f a) (f b) = decide (g a ≤ g b)) {xs : List α} (h : xs.Pairwise fun a b => g a ≤ g b) : srtT f xs = xs :=
  List.mergeSort_of_pairwise (h.imp fun h => by rw [hf]; exact decide_eq_true h)
theorem nodup_perm {α : Type} [DecidableEq α] {xs ys : List α} (h1 : xs.Nodup) (h2 : ys.Nodup) (h : ∀ a, a ∈ xs ↔ a ∈ ys) : xs.Perm ys := by
  rw [List.perm_iff_count]
  intro a
  rw [h1.count, h2.count]
  simp only [h]
theorem len_flatMap {α β : Type} {f : α → List β} {B : Nat} : ∀ {xs : List α}, (∀ x ∈ xs, (f x).length ≤ B) → (xs.flatMap f).length ≤ xs.length * B
  | [], _ => by simp
  | x :: xs, h => by
    rw [List.flatMap_cons, List.length_append, List.length_cons, Nat.succ_mul]
    have := h x (by simp)
    have := len_flatMap (f := f) (B := B) (xs := xs) fun y hy => h y (by simp [hy])
    omega
end DL
namespace M
open PySem PySem.Spec PyProof.Rows L2 DL

/-! ### rim -/
def rowL (r x : Int) : List (Int × Int) := ((rangeL (0 - r) (r + 1)).filter fun y => decide (r * r - r < x * x + y * y ∧ x * x + y * y ≤ r * r + r)).map fun y => (x, y)
def rimL (r : Int) : List (Int × Int) := if r = 0 then [(0, 0)] else (rangeL (0 - r) (r + 1)).flatMap (rowL r)
def sp_rim : DRn := d1 fun d G Q => ∃ r : Int, d = .int r ∧ 0 ≤ r ∧ r ≤ 30 ∧ Q (eL e2 (rimL r)) G
abbrev N_rim : List Str := ["radius", "found", "x", "y"]
def T_rim : DTS :=
    (dSeq (dIfS (dTest (dOp dEq (dName 0) (dC (.int 0))))
    (dRet (dLstF (dCons (dTup (dCons (dC (.int 0)) (dCons (dC (.int 0)) dNil))) dNil)))
    dNext)
    (dSeq (dAsg (dLstM dNil) (gdName 1))
    (dSeq (dFor (diRange2 (dCons (dOp dSub (dC (.int 0)) (dName 0)) (dCons (dOp dAdd (dName 0) (dC (.int 1))) dNil))) (gdName 2)
    (dFor (diRange2 (dCons (dOp dSub (dC (.int 0)) (dName 0)) (dCons (dOp dAdd (dName 0) (dC (.int 1))) dNil))) (gdName 3)
    (dIfS (dTest (dChain dLt dLe (dOp dSub (dOp dMul (dName 0) (dName 0)) (dName 0)) (dOp dAdd (dOp dMul (dName 2) (dName 2)) (dOp dMul (dName 3) (dName 3))) (dOp dAdd (dOp dMul (dName 0) (dName 0)) (dName 0))))
    (dDrop (dM "list" dAppend (dName 1) (dCons (dTup (dCons (dName 2) (dCons (dName 3) dNil))) dNil)))
    dNext)))
    (dRetF (dName 1)))))
theorem len_rim : ∀ ds G Q, sp_rim ds G Q → ds.length = 1 := fun ds G Q h => by
  match ds, h with
  | [_], _ => rfl
theorem run_rim : ∀ ds G Q, sp_rim ds G Q → T_rim { nx := fun _ G' => Q .non G', rt := Q } (startD N_rim ds) G := fun ds G Q h => by
  match ds, h with
  | [_], ⟨r, rfl, h0, h1, q⟩ =>
    simp only [T_rim, N_rim, dSeq, dIfS, dTest, dOp, dName, dC, dRet, dLstF, dCons, dNil, dTup, dNext, dAsg, dLstM, gdName, dDrop, dM, dM0, dIf, dAnd, dOr, dNot, dAndV, dOrV, dNotV, dChain, dFz, dRetF, dRetN, dBreak, dCont, dCB, gdTup, gdCons, gdNil, gdSub, dNeg, dAug, dAugS, dFrz, dPar, dNoPart, dPart, dSlice, dYes, wipeD, i2, d1, d2, d3, startD, List.map_cons, List.map_nil, List.length_cons, List.length_nil, List.cons_append, List.nil_append, List.append_nil, List.getElem?_cons_zero, List.getElem?_cons_succ, List.getElem?_nil, List.replicate, List.set_cons_succ, List.set_cons_zero, Nat.reduceAdd, Nat.reduceSub, Nat.reduceLeDiff, run_eqi, run_nei, run_lt, run_le, run_gt, run_ge, run_addi, run_iaddi, true_and, and_true, Bool.not_eq_true, Bool.not_true, Bool.not_false, if_true, if_false, Bool.false_eq_true, ite_true, ite_false, reduceIte, reduceCtorEq, decide_eq_true_eq, decide_eq_false_iff_not]
    by_cases hr : r = 0
    · subst hr
      simp only [dSeq, dIfS, dTest, dOp, dName, dC, dRet, dLstF, dCons, dNil, dTup, dNext, dAsg, dLstM, gdName, dDrop, dM, dM0, dIf, dAnd, dOr, dNot, dAndV, dOrV, dNotV, dChain, dFz, dRetF, dRetN, dBreak, dCont, dCB, gdTup, gdCons, gdNil, gdSub, dNeg, dAug, dAugS, dFrz, dPar, dNoPart, dPart, dSlice, dYes, wipeD, i2, d1, d2, d3, startD, List.map_cons, List.map_nil, List.length_cons, List.length_nil, List.cons_append, List.nil_append, List.append_nil, List.getElem?_cons_zero, List.getElem?_cons_succ, List.getElem?_nil, List.replicate, List.set_cons_succ, List.set_cons_zero, Nat.reduceAdd, Nat.reduceSub, Nat.reduceLeDiff, run_eqi, run_nei, run_lt, run_le, run_gt, run_ge, run_addi, run_iaddi, true_and, and_true, Bool.not_eq_true, Bool.not_true, Bool.not_false, if_true, if_false, Bool.false_eq_true, ite_true, ite_false, reduceIte, reduceCtorEq, decide_eq_true_eq, decide_eq_false_iff_not]
      exact q
    · simp only [hr, dSeq, dIfS, dTest, dOp, dName, dC, dRet, dLstF, dCons, dNil, dTup, dNext, dAsg, dLstM, gdName, dDrop, dM, dM0, dIf, dAnd, dOr, dNot, dAndV, dOrV, dNotV, dChain, dFz, dRetF, dRetN, dBreak, dCont, dCB, gdTup, gdCons, gdNil, gdSub, dNeg, dAug, dAugS, dFrz, dPar, dNoPart, dPart, dSlice, dYes, wipeD, i2, d1, d2, d3, startD, List.map_cons, List.map_nil, List.length_cons, List.length_nil, List.cons_append, List.nil_append, List.append_nil, List.getElem?_cons_zero, List.getElem?_cons_succ, List.getElem?_nil, List.replicate, List.set_cons_succ, List.set_cons_zero, Nat.reduceAdd, Nat.reduceSub, Nat.reduceLeDiff, run_eqi, run_nei, run_lt, run_le, run_gt, run_ge, run_addi, run_iaddi, true_and, and_true, Bool.not_eq_true, Bool.not_true, Bool.not_false, if_true, if_false, Bool.false_eq_true, ite_true, ite_false, reduceIte, reduceCtorEq, decide_eq_true_eq, decide_eq_false_iff_not]
      intro p hp
      have hlen : (rangeL (0 - r) (r + 1)).length ≤ 61 := by rw [len_range]; omega
      refine ⟨trivial, ⟨by omega, by omega, by omega, by omega⟩, fun i η G' => η = [some (.int r), some (.ref p), none, none] ∧ G' = up G p (.lst (((rangeL (0 - r) (r + 1)).take i).flatMap (rowL r) |>.map e2)) ∧ (((rangeL (0 - r) (r + 1)).take i).flatMap (rowL r)).length ≤ i * 61, ⟨rfl, rfl, by simp⟩, fun _ _ _ _ => trivial, ?_, ?_⟩
      · rintro i d η G' hd ⟨rfl, rfl, hl⟩
        obtain ⟨x, hx, rfl⟩ := get_map hd
        have hx' := mem_range.mp (List.mem_of_getElem? hx)
        have hi : i < 61 := Nat.lt_of_lt_of_le (List.getElem?_eq_some_iff.mp hx).1 hlen
        simp only [dSeq, dIfS, dTest, dOp, dName, dC, dRet, dLstF, dCons, dNil, dTup, dNext, dAsg, dLstM, gdName, dDrop, dM, dM0, dIf, dAnd, dOr, dNot, dAndV, dOrV, dNotV, dChain, dFz, dRetF, dRetN, dBreak, dCont, dCB, gdTup, gdCons, gdNil, gdSub, dNeg, dAug, dAugS, dFrz, dPar, dNoPart, dPart, dSlice, dYes, wipeD, i2, d1, d2, d3, startD, List.map_cons, List.map_nil, List.length_cons, List.length_nil, List.cons_append, List.nil_append, List.append_nil, List.getElem?_cons_zero, List.getElem?_cons_succ, List.getElem?_nil, List.replicate, List.set_cons_succ, List.set_cons_zero, Nat.reduceAdd, Nat.reduceSub, Nat.reduceLeDiff, run_eqi, run_nei, run_lt, run_le, run_gt, run_ge, run_addi, run_iaddi, true_and, and_true, Bool.not_eq_true, Bool.not_true, Bool.not_false, if_true, if_false, Bool.false_eq_true, ite_true, ite_false, reduceIte, reduceCtorEq, decide_eq_true_eq, decide_eq_false_iff_not]
        refine ⟨trivial, ⟨by omega, by omega, by omega, by omega⟩, fun j η G' => η = [some (.int r), some (.ref p), some (.int x), none] ∧ ∃ acc : List (Int × Int), acc = ((rangeL (0 - r) (r + 1)).take i).flatMap (rowL r) ++ (((rangeL (0 - r) (r + 1)).take j).filter fun y => decide (r * r - r < x * x + y * y ∧ x * x + y * y ≤ r * r + r)).map (fun y => (x, y)) ∧ G' = up G p (.lst (acc.map e2)), ⟨rfl, _, by simp, rfl⟩, fun _ _ _ _ => trivial, ?_, ?_⟩
        · rintro j d η G' hd ⟨rfl, acc, hacc, rfl⟩
          obtain ⟨y, hy, rfl⟩ := get_map hd
          have hy' := mem_range.mp (List.mem_of_getElem? hy)
          have hj : j < 61 := Nat.lt_of_lt_of_le (List.getElem?_eq_some_iff.mp hy).1 hlen
          simp only [dSeq, dIfS, dTest, dOp, dName, dC, dRet, dLstF, dCons, dNil, dTup, dNext, dAsg, dLstM, gdName, dDrop, dM, dM0, dIf, dAnd, dOr, dNot, dAndV, dOrV, dNotV, dChain, dFz, dRetF, dRetN, dBreak, dCont, dCB, gdTup, gdCons, gdNil, gdSub, dNeg, dAug, dAugS, dFrz, dPar, dNoPart, dPart, dSlice, dYes, wipeD, i2, d1, d2, d3, startD, List.map_cons, List.map_nil, List.length_cons, List.length_nil, List.cons_append, List.nil_append, List.append_nil, List.getElem?_cons_zero, List.getElem?_cons_succ, List.getElem?_nil, List.replicate, List.set_cons_succ, List.set_cons_zero, Nat.reduceAdd, Nat.reduceSub, Nat.reduceLeDiff, run_eqi, run_nei, run_lt, run_le, run_gt, run_ge, run_addi, run_iaddi, true_and, and_true, Bool.not_eq_true, Bool.not_true, Bool.not_false, if_true, if_false, Bool.false_eq_true, ite_true, ite_false, reduceIte, reduceCtorEq, decide_eq_true_eq, decide_eq_false_iff_not]
          refine ⟨mul_small (by omega), mul_small (by omega), mul_small (by omega), ?_⟩
          have hfl : ((rangeL (0 - r) (r + 1)).take j |>.filter fun y => decide (r * r - r < x * x + y * y ∧ x * x + y * y ≤ r * r + r)).length ≤ 61 := Nat.le_trans (List.length_filter_le _ _) (by rw [List.length_take]; omega)
          have stay : ¬ (r * r - r < x * x + y * y ∧ x * x + y * y ≤ r * r + r) → acc = ((rangeL (0 - r) (r + 1)).take i).flatMap (rowL r) ++ (((rangeL (0 - r) (r + 1)).take (j + 1)).filter fun y => decide (r * r - r < x * x + y * y ∧ x * x + y * y ≤ r * r + r)).map (fun y => (x, y)) := fun hn => by
            rw [take_snoc hy, List.filter_append, hacc]
            simp [hn]
          by_cases c1 : r * r - r < x * x + y * y
          · rw [if_pos c1]
            refine ⟨mul_small (by omega), ?_⟩
            by_cases c2 : x * x + y * y ≤ r * r + r
            · rw [if_pos c2]
              refine run_app up_same (small_line ?_) ⟨_, (by repeat (first | exact Le.nil | apply Le.keep | apply Le.drop)), rfl, _, ?_, by rw [up_up, show (acc.map e2 ++ [D.nd .tup [.int x, .int y]]) = (acc ++ [(x, y)]).map e2 by rw [List.map_append]; rfl]⟩
              · rw [List.length_map, hacc, List.length_append, List.length_map]
                have : i * 61 ≤ 61 * 61 := Nat.mul_le_mul_right 61 (Nat.le_of_lt hi)
                omega
              · rw [take_snoc hy, List.filter_append, hacc]
                simp [c1, c2]
            · rw [if_neg c2]
              exact ⟨_, (by repeat (first | exact Le.nil | apply Le.keep | apply Le.drop)), rfl, acc, stay (fun h => c2 h.2), rfl⟩
          · rw [if_neg c1]
            exact ⟨_, (by repeat (first | exact Le.nil | apply Le.keep | apply Le.drop)), rfl, acc, stay (fun h => c1 h.1), rfl⟩
        · rintro η G' ⟨rfl, acc, hacc, rfl⟩
          rw [List.length_map, List.take_length] at hacc
          refine ⟨_, (by repeat (first | exact Le.nil | apply Le.keep | apply Le.drop)), rfl, ?_, ?_⟩
          · rw [take_snoc hx, List.flatMap_append, hacc]
            simp [rowL]
          · rw [take_snoc hx, List.flatMap_append, List.length_append]
            have : ((rowL r x)).length ≤ 61 := by unfold rowL; rw [List.length_map]; exact Nat.le_trans (List.length_filter_le _ _) hlen
            simp only [List.flatMap_cons, List.flatMap_nil, List.append_nil]
            omega
      · rintro η G' ⟨rfl, rfl, hl⟩
        simp only [up_same, dl_up hp, DO.tree, dSeq, dIfS, dTest, dOp, dName, dC, dRet, dLstF, dCons, dNil, dTup, dNext, dAsg, dLstM, gdName, dDrop, dM, dM0, dIf, dAnd, dOr, dNot, dAndV, dOrV, dNotV, dChain, dFz, dRetF, dRetN, dBreak, dCont, dCB, gdTup, gdCons, gdNil, gdSub, dNeg, dAug, dAugS, dFrz, dPar, dNoPart, dPart, dSlice, dYes, wipeD, i2, d1, d2, d3, startD, List.map_cons, List.map_nil, List.length_cons, List.length_nil, List.cons_append, List.nil_append, List.append_nil, List.getElem?_cons_zero, List.getElem?_cons_succ, List.getElem?_nil, List.replicate, List.set_cons_succ, List.set_cons_zero, Nat.reduceAdd, Nat.reduceSub, Nat.reduceLeDiff, run_eqi, run_nei, run_lt, run_le, run_gt, run_ge, run_addi, run_iaddi, true_and, and_true, Bool.not_eq_true, Bool.not_true, Bool.not_false, if_true, if_false, Bool.false_eq_true, ite_true, ite_false, reduceIte, reduceCtorEq, decide_eq_true_eq, decide_eq_false_iff_not]
        rw [List.length_map, List.take_length]
        unfold rimL at q
        rw [if_neg hr] at q
        exact q
end M
namespace M
open PySem PySem.Spec PyProof.Rows L2 DL

/-! ### radius_of -/
def sp_radius_of : DRn := d2 fun dx dy G Q => ∃ x y : Int, dx = .int x ∧ dy = .int y ∧ -100 ≤ x ∧ x ≤ 100 ∧ -100 ≤ y ∧ y ≤ 100 ∧ ∀ r : Int, 0 ≤ r → x * x + y * y ≤ r * r + r → (r = 0 ∨ (r - 1) * (r - 1) + (r - 1) < x * x + y * y) → Q (.int r) G
abbrev N_radius_of : List Str := ["x", "y", "radius"]
def T_radius_of : DTS :=
    (dSeq (dAsg (dC (.int 0)) (gdName 2))
    (dSeq (dWhile (dTest (dOp dGt (dOp dAdd (dOp dMul (dName 0) (dName 0)) (dOp dMul (dName 1) (dName 1))) (dOp dAdd (dOp dMul (dName 2) (dName 2)) (dName 2))))
    (dAsg (dOp dAdd (dName 2) (dC (.int 1))) (gdName 2)))
    (dRet (dName 2))))
theorem len_radius_of : ∀ ds G Q, sp_radius_of ds G Q → ds.length = 2 := fun ds G Q h => by
  match ds, h with
  | [_, _], _ => rfl
theorem sq_le {x : Int} (h1 : -100 ≤ x) (h2 : x ≤ 100) : x * x ≤ 10000 := by
  have : 0 ≤ (100 - x) * (100 + x) := Int.mul_nonneg (by omega) (by omega)
  have e : (100 - x) * (100 + x) = 10000 - x * x := by rw [Int.sub_mul, Int.mul_add, Int.mul_add]; have := Int.mul_comm x 100; omega
  omega
theorem run_radius_of : ∀ ds G Q, sp_radius_of ds G Q → T_radius_of { nx := fun _ G' => Q .non G', rt := Q } (startD N_radius_of ds) G := fun ds G Q h => by
  match ds, h with
  | [_, _], ⟨x, y, rfl, rfl, hx1, hx2, hy1, hy2, q⟩ =>
    simp only [T_radius_of, N_radius_of, dSeq, dIfS, dTest, dOp, dName, dC, dRet, dLstF, dCons, dNil, dTup, dNext, dAsg, dLstM, gdName, dDrop, dM, dM0, dIf, dAnd, dOr, dNot, dAndV, dOrV, dNotV, dChain, dFz, dRetF, dRetN, dBreak, dCont, dCB, gdTup, gdCons, gdNil, gdSub, dNeg, dAug, dAugS, dFrz, dPar, dNoPart, dPart, dSlice, dYes, wipeD, i2, d1, d2, d3, startD, List.map_cons, List.map_nil, List.length_cons, List.length_nil, List.cons_append, List.nil_append, List.append_nil, List.getElem?_cons_zero, List.getElem?_cons_succ, List.getElem?_nil, List.replicate, List.set_cons_succ, List.set_cons_zero, Nat.reduceAdd, Nat.reduceSub, Nat.reduceLeDiff, run_eqi, run_nei, run_lt, run_le, run_gt, run_ge, run_addi, run_iaddi, true_and, and_true, Bool.not_eq_true, Bool.not_true, Bool.not_false, if_true, if_false, Bool.false_eq_true, ite_true, ite_false, reduceIte, reduceCtorEq, decide_eq_true_eq, decide_eq_false_iff_not]
    have hn : x * x + y * y ≤ 20000 := by have := sq_le hx1 hx2; have := sq_le hy1 hy2; omega
    refine ⟨fun m η G' => G' = G ∧ ∃ r : Int, η = [some (.int x), some (.int y), some (.int r)] ∧ 0 ≤ r ∧ r ≤ 200 ∧ m = (1000 - r).toNat ∧ (r = 0 ∨ (r - 1) * (r - 1) + (r - 1) < x * x + y * y), ⟨_, rfl, 0, rfl, by omega, by omega, rfl, .inl rfl⟩, ?_⟩
    rintro m η G' ⟨rfl, r, rfl, h0, h1, rfl, hr⟩
    simp only [dSeq, dIfS, dTest, dOp, dName, dC, dRet, dLstF, dCons, dNil, dTup, dNext, dAsg, dLstM, gdName, dDrop, dM, dM0, dIf, dAnd, dOr, dNot, dAndV, dOrV, dNotV, dChain, dFz, dRetF, dRetN, dBreak, dCont, dCB, gdTup, gdCons, gdNil, gdSub, dNeg, dAug, dAugS, dFrz, dPar, dNoPart, dPart, dSlice, dYes, wipeD, i2, d1, d2, d3, startD, List.map_cons, List.map_nil, List.length_cons, List.length_nil, List.cons_append, List.nil_append, List.append_nil, List.getElem?_cons_zero, List.getElem?_cons_succ, List.getElem?_nil, List.replicate, List.set_cons_succ, List.set_cons_zero, Nat.reduceAdd, Nat.reduceSub, Nat.reduceLeDiff, run_eqi, run_nei, run_lt, run_le, run_gt, run_ge, run_addi, run_iaddi, true_and, and_true, Bool.not_eq_true, Bool.not_true, Bool.not_false, if_true, if_false, Bool.false_eq_true, ite_true, ite_false, reduceIte, reduceCtorEq, decide_eq_true_eq, decide_eq_false_iff_not]
    refine ⟨mul_small (by omega), mul_small (by omega), mul_small (by omega), ?_⟩
    by_cases c : r * r + r < x * x + y * y
    · rw [if_pos c]
      have h200 : r + 1 ≤ 200 := by
        by_cases hh : r ≤ 199
        · omega
        · have : 200 * 200 ≤ r * r := Int.mul_le_mul (by omega) (by omega) (by omega) (by omega)
          omega
      refine ⟨_, by omega, _, (by repeat (first | exact Le.nil | apply Le.keep | apply Le.drop)), rfl, r + 1, rfl, by omega, h200, rfl, .inr ?_⟩
      rw [show r + 1 - 1 = r by omega]
      exact c
    · rw [if_neg c]
      exact q r h0 (by omega) hr

/-! ### votes -/
def V3 (r : Int) (d c : Int × Int) : Int × Int × Int := (c.1 - d.1, c.2 - d.2, r)
def V2 (cells : List (Int × Int)) (r : Int) (d : Int × Int) : List (Int × Int × Int) := cells.map (V3 r d)
def V1 (cells : List (Int × Int)) (r : Int) : List (Int × Int × Int) := (rimL r).flatMap (V2 cells r)
def visits (cells : List (Int × Int)) (radii : List Int) : List (Int × Int × Int) := radii.flatMap (V1 cells)
def sp_votes : DRn := d2 fun dc dr G Q => ∃ (cells : List (Int × Int)) (radii : List Int), dc = eL e2 cells ∧ dr = eL .int radii ∧ cells.length ≤ 200 ∧ radii.length ≤ 10 ∧ (∀ r ∈ radii, 0 ≤ r ∧ r ≤ 10) ∧ ∀ kvs : List ((Int × Int × Int) × Int), Cnt kvs (visits cells radii) → Q (eD k3 .int kvs) G
abbrev N_votes : List Str := ["cells", "radii", "found", "radius", "right", "down", "x", "y", "place"]
def T_votes : DTS :=
    (dSeq (dAsg dNewN (gdName 2))
    (dSeq (dFor (diSeq (dName 1)) (gdName 3)
    (dFor (diSeq (dCB sp_rim (dCons (dName 3) dNil))) (gdTup (gdCons (gdName 4) (gdCons (gdName 5) gdNil)) 2)
    (dFor (diSeq (dName 0)) (gdTup (gdCons (gdName 6) (gdCons (gdName 7) gdNil)) 2)
    (dSeq (dAsg (dTup (dCons (dOp dSub (dName 6) (dName 4)) (dCons (dOp dSub (dName 7) (dName 5)) (dCons (dName 3) dNil)))) (gdName 8))
    (dAsg (dOp dAdd (dM "dict" dGet2 (dName 2) (dCons (dName 8) (dCons (dC (.int 0)) dNil))) (dC (.int 1))) (gdSub (dName 2) (dName 8) dSet))))))
    (dRetF (dName 2))))
theorem len_votes : ∀ ds G Q, sp_votes ds G Q → ds.length = 2 := fun ds G Q h => by
  match ds, h with
  | [_, _], _ => rfl
theorem rim_len {r : Int} (h0 : 0 ≤ r) (h1 : r ≤ 10) : (rimL r).length ≤ 441 := by
  unfold rimL
  split
  · decide
  · have hl : (rangeL (0 - r) (r + 1)).length ≤ 21 := by rw [len_range]; omega
    refine Nat.le_trans (len_flatMap (B := 21) fun x _ => ?_) (by omega)
    unfold rowL
    rw [List.length_map]
    exact Nat.le_trans (List.length_filter_le _ _) hl
theorem run_votes : ∀ ds G Q, sp_votes ds G Q → T_votes { nx := fun _ G' => Q .non G', rt := Q } (startD N_votes ds) G := fun ds G Q h => by
  match ds, h with
  | [_, _], ⟨cells, radii, rfl, rfl, hc, hr, hrr, q⟩ =>
    simp only [T_votes, N_votes, dNewN, dSeq, dIfS, dTest, dOp, dName, dC, dRet, dLstF, dCons, dNil, dTup, dNext, dAsg, dLstM, gdName, dDrop, dM, dM0, dIf, dAnd, dOr, dNot, dAndV, dOrV, dNotV, dChain, dFz, dRetF, dRetN, dBreak, dCont, dCB, gdTup, gdCons, gdNil, gdSub, dNeg, dAug, dAugS, dFrz, dPar, dNoPart, dPart, dSlice, dYes, wipeD, i2, d1, d2, d3, startD, List.map_cons, List.map_nil, List.length_cons, List.length_nil, List.cons_append, List.nil_append, List.append_nil, List.getElem?_cons_zero, List.getElem?_cons_succ, List.getElem?_nil, List.replicate, List.set_cons_succ, List.set_cons_zero, Nat.reduceAdd, Nat.reduceSub, Nat.reduceLeDiff, run_eqi, run_nei, run_lt, run_le, run_gt, run_ge, run_addi, run_iaddi, true_and, and_true, Bool.not_eq_true, Bool.not_true, Bool.not_false, if_true, if_false, Bool.false_eq_true, ite_true, ite_false, reduceIte, reduceCtorEq, decide_eq_true_eq, decide_eq_false_iff_not]
    intro p hp
    refine ⟨fun i η G' => ∃ kvs : List ((Int × Int × Int) × Int), η = [some (eL e2 cells), some (eL .int radii), some (.ref p), none, none, none, none, none, none] ∧ G' = up G p (.dN (enc k3 .int kvs)) ∧ Cnt kvs ((radii.take i).flatMap (V1 cells)) ∧ kvs.length ≤ i * 88200, ⟨[], rfl, rfl, .nil, Nat.zero_le _⟩, fun _ _ _ _ => trivial, ?_, ?_⟩
    · rintro i d η G' hd ⟨kvs, rfl, rfl, cn, hl⟩
      obtain ⟨r, hri, rfl⟩ := get_map hd
      have hr1 := hrr r (List.mem_of_getElem? hri)
      have hi : i < 10 := Nat.lt_of_lt_of_le (List.getElem?_eq_some_iff.mp hri).1 hr
      simp only [dSeq, dIfS, dTest, dOp, dName, dC, dRet, dLstF, dCons, dNil, dTup, dNext, dAsg, dLstM, gdName, dDrop, dM, dM0, dIf, dAnd, dOr, dNot, dAndV, dOrV, dNotV, dChain, dFz, dRetF, dRetN, dBreak, dCont, dCB, gdTup, gdCons, gdNil, gdSub, dNeg, dAug, dAugS, dFrz, dPar, dNoPart, dPart, dSlice, dYes, wipeD, i2, d1, d2, d3, startD, List.map_cons, List.map_nil, List.length_cons, List.length_nil, List.cons_append, List.nil_append, List.append_nil, List.getElem?_cons_zero, List.getElem?_cons_succ, List.getElem?_nil, List.replicate, List.set_cons_succ, List.set_cons_zero, Nat.reduceAdd, Nat.reduceSub, Nat.reduceLeDiff, run_eqi, run_nei, run_lt, run_le, run_gt, run_ge, run_addi, run_iaddi, true_and, and_true, Bool.not_eq_true, Bool.not_true, Bool.not_false, if_true, if_false, Bool.false_eq_true, ite_true, ite_false, reduceIte, reduceCtorEq, decide_eq_true_eq, decide_eq_false_iff_not]
      refine ⟨r, rfl, hr1.1, by omega, fun j η G' => ∃ kvs : List ((Int × Int × Int) × Int), η = [some (eL e2 cells), some (eL .int radii), some (.ref p), some (.int r), none, none, none, none, none] ∧ G' = up G p (.dN (enc k3 .int kvs)) ∧ Cnt kvs ((radii.take i).flatMap (V1 cells) ++ ((rimL r).take j).flatMap (V2 cells r)) ∧ kvs.length ≤ i * 88200 + j * 200, ⟨kvs, rfl, rfl, by rw [List.take_zero, List.flatMap_nil, List.append_nil]; exact cn, Nat.le_add_right_of_le hl⟩, fun _ _ _ _ => trivial, ?_, ?_⟩
      · rintro j d η G' hd ⟨kvs, rfl, rfl, cn, hl⟩
        obtain ⟨dd, hdj, rfl⟩ := get_map hd
        have hj : j < 441 := Nat.lt_of_lt_of_le (List.getElem?_eq_some_iff.mp hdj).1 (rim_len hr1.1 hr1.2)
        simp only [e2, dSeq, dIfS, dTest, dOp, dName, dC, dRet, dLstF, dCons, dNil, dTup, dNext, dAsg, dLstM, gdName, dDrop, dM, dM0, dIf, dAnd, dOr, dNot, dAndV, dOrV, dNotV, dChain, dFz, dRetF, dRetN, dBreak, dCont, dCB, gdTup, gdCons, gdNil, gdSub, dNeg, dAug, dAugS, dFrz, dPar, dNoPart, dPart, dSlice, dYes, wipeD, i2, d1, d2, d3, startD, List.map_cons, List.map_nil, List.length_cons, List.length_nil, List.cons_append, List.nil_append, List.append_nil, List.getElem?_cons_zero, List.getElem?_cons_succ, List.getElem?_nil, List.replicate, List.set_cons_succ, List.set_cons_zero, Nat.reduceAdd, Nat.reduceSub, Nat.reduceLeDiff, run_eqi, run_nei, run_lt, run_le, run_gt, run_ge, run_addi, run_iaddi, true_and, and_true, Bool.not_eq_true, Bool.not_true, Bool.not_false, if_true, if_false, Bool.false_eq_true, ite_true, ite_false, reduceIte, reduceCtorEq, decide_eq_true_eq, decide_eq_false_iff_not]
        refine ⟨fun k η G' => ∃ kvs : List ((Int × Int × Int) × Int), η = [some (eL e2 cells), some (eL .int radii), some (.ref p), some (.int r), some (.int dd.1), some (.int dd.2), none, none, none] ∧ G' = up G p (.dN (enc k3 .int kvs)) ∧ Cnt kvs ((radii.take i).flatMap (V1 cells) ++ ((rimL r).take j).flatMap (V2 cells r) ++ (cells.take k).map (V3 r dd)) ∧ kvs.length ≤ i * 88200 + j * 200 + k, ⟨kvs, rfl, rfl, by rw [List.take_zero, List.map_nil, List.append_nil]; exact cn, Nat.le_add_right_of_le hl⟩, fun _ _ _ _ => trivial, ?_, ?_⟩
        · rintro k d η G' hd ⟨kvs, rfl, rfl, cn, hl⟩
          obtain ⟨c, hck, rfl⟩ := get_map hd
          have hk : k < 200 := Nat.lt_of_lt_of_le (List.getElem?_eq_some_iff.mp hck).1 hc
          simp only [e2, dSeq, dIfS, dTest, dOp, dName, dC, dRet, dLstF, dCons, dNil, dTup, dNext, dAsg, dLstM, gdName, dDrop, dM, dM0, dIf, dAnd, dOr, dNot, dAndV, dOrV, dNotV, dChain, dFz, dRetF, dRetN, dBreak, dCont, dCB, gdTup, gdCons, gdNil, gdSub, dNeg, dAug, dAugS, dFrz, dPar, dNoPart, dPart, dSlice, dYes, wipeD, i2, d1, d2, d3, startD, List.map_cons, List.map_nil, List.length_cons, List.length_nil, List.cons_append, List.nil_append, List.append_nil, List.getElem?_cons_zero, List.getElem?_cons_succ, List.getElem?_nil, List.replicate, List.set_cons_succ, List.set_cons_zero, Nat.reduceAdd, Nat.reduceSub, Nat.reduceLeDiff, run_eqi, run_nei, run_lt, run_le, run_gt, run_ge, run_addi, run_iaddi, true_and, and_true, Bool.not_eq_true, Bool.not_true, Bool.not_false, if_true, if_false, Bool.false_eq_true, ite_true, ite_false, reduceIte, reduceCtorEq, decide_eq_true_eq, decide_eq_false_iff_not]
          refine run_getI tk3 (a := V3 r dd c) (dicN_ref up_same) (ty_ref up_same) ?_
          simp only [dSeq, dIfS, dTest, dOp, dName, dC, dRet, dLstF, dCons, dNil, dTup, dNext, dAsg, dLstM, gdName, dDrop, dM, dM0, dIf, dAnd, dOr, dNot, dAndV, dOrV, dNotV, dChain, dFz, dRetF, dRetN, dBreak, dCont, dCB, gdTup, gdCons, gdNil, gdSub, dNeg, dAug, dAugS, dFrz, dPar, dNoPart, dPart, dSlice, dYes, wipeD, i2, d1, d2, d3, startD, List.map_cons, List.map_nil, List.length_cons, List.length_nil, List.cons_append, List.nil_append, List.append_nil, List.getElem?_cons_zero, List.getElem?_cons_succ, List.getElem?_nil, List.replicate, List.set_cons_succ, List.set_cons_zero, Nat.reduceAdd, Nat.reduceSub, Nat.reduceLeDiff, run_eqi, run_nei, run_lt, run_le, run_gt, run_ge, run_addi, run_iaddi, true_and, and_true, Bool.not_eq_true, Bool.not_true, Bool.not_false, if_true, if_false, Bool.false_eq_true, ite_true, ite_false, reduceIte, reduceCtorEq, decide_eq_true_eq, decide_eq_false_iff_not]
          refine run_set tk3 (a := V3 r dd c) (f := D.int) up_same (small_line (by omega)) ?_
          refine ⟨_, (by repeat (first | exact Le.nil | apply Le.keep | apply Le.drop)), _, rfl, by rw [up_up], ?_, ?_⟩
          · rw [take_snoc hck, List.map_append, ← List.append_assoc]
            exact cn.step _
          · have := aput_len kvs (V3 r dd c) ((aget kvs (V3 r dd c)).getD 0 + 1)
            omega
        · rintro η G' ⟨kvs, rfl, rfl, cn, hl⟩
          refine ⟨_, (by repeat (first | exact Le.nil | apply Le.keep | apply Le.drop)), kvs, rfl, rfl, ?_, ?_⟩
          · rw [take_snoc hdj, List.flatMap_append, ← List.append_assoc]
            rw [List.length_map, List.take_length] at cn
            simpa [V2] using cn
          · rw [List.length_map] at hl
            refine Nat.le_trans hl ?_
            rw [Nat.add_mul, Nat.one_mul, ← Nat.add_assoc]
            exact Nat.add_le_add_left hc _
      · rintro η G' ⟨kvs, rfl, rfl, cn, hl⟩
        refine ⟨_, (by repeat (first | exact Le.nil | apply Le.keep | apply Le.drop)), kvs, rfl, rfl, ?_, ?_⟩
        · rw [take_snoc hri, List.flatMap_append]
          rw [List.length_map, List.take_length] at cn
          simpa [V1] using cn
        · rw [List.length_map] at hl
          have := rim_len hr1.1 hr1.2
          omega
    · rintro η G' ⟨kvs, rfl, rfl, cn, hl⟩
      rw [List.length_map, List.take_length] at cn
      simp only [up_same, dl_up hp, dSeq, dIfS, dTest, dOp, dName, dC, dRet, dLstF, dCons, dNil, dTup, dNext, dAsg, dLstM, gdName, dDrop, dM, dM0, dIf, dAnd, dOr, dNot, dAndV, dOrV, dNotV, dChain, dFz, dRetF, dRetN, dBreak, dCont, dCB, gdTup, gdCons, gdNil, gdSub, dNeg, dAug, dAugS, dFrz, dPar, dNoPart, dPart, dSlice, dYes, wipeD, i2, d1, d2, d3, startD, List.map_cons, List.map_nil, List.length_cons, List.length_nil, List.cons_append, List.nil_append, List.append_nil, List.getElem?_cons_zero, List.getElem?_cons_succ, List.getElem?_nil, List.replicate, List.set_cons_succ, List.set_cons_zero, Nat.reduceAdd, Nat.reduceSub, Nat.reduceLeDiff, run_eqi, run_nei, run_lt, run_le, run_gt, run_ge, run_addi, run_iaddi, true_and, and_true, Bool.not_eq_true, Bool.not_true, Bool.not_false, if_true, if_false, Bool.false_eq_true, ite_true, ite_false, reduceIte, reduceCtorEq, decide_eq_true_eq, decide_eq_false_iff_not]
      exact q kvs cn
end M
namespace M
open PySem PySem.Spec PyProof.Rows L2 DL

section
variable {α : Type} [DecidableEq α]
def cnt (L : List α) (a : α) : Nat := L.count a
theorem cnt_get {kvs : List (α × Int)} {L : List α} (h : Cnt kvs L) {a : α} (m : a ∈ L) : aget kvs a = some (cnt L a : Int) := by
  rw [h.at_ a, if_neg fun z => List.count_eq_zero.mp z m]
  rfl
theorem cnt_of {kvs : List (α × Int)} {L : List α} (h : Cnt kvs L) {a : α} {m : Int} (e : aget kvs a = some m) : a ∈ L ∧ m = cnt L a := by
  rw [h.at_ a] at e
  by_cases z : L.count a = 0
  · rw [if_pos z] at e; cases e
  · rw [if_neg z] at e
    cases e
    exact ⟨List.count_pos_iff.mp (Nat.pos_of_ne_zero z), rfl⟩
theorem aget_of_mem {β : Type} {a : α} {m : β} : ∀ {kvs : List (α × β)}, (kvs.map (·.1)).Nodup → (a, m) ∈ kvs → aget kvs a = some m
  | [], _, h => by cases h
  | z :: kvs, hn, h => by
    rw [List.map_cons, List.nodup_cons] at hn
    unfold aget
    rcases List.mem_cons.mp h with e | h
    · rw [← e]; simp
    · have : z.1 ≠ a := fun e => hn.1 (e ▸ List.mem_map.mpr ⟨_, h, rfl⟩)
      simp only [List.find?_cons, this, decide_false]
      exact aget_of_mem hn.2 h
theorem mem_of_aget {β : Type} {a : α} {m : β} {kvs : List (α × β)} (h : aget kvs a = some m) : (a, m) ∈ kvs := by
  unfold aget at h
  cases hf : kvs.find? (fun p => decide (p.1 = a)) with
  | none => rw [hf] at h; cases h
  | some z =>
    rw [hf] at h
    have h1 := List.mem_of_find?_eq_some hf
    have h2 := List.find?_some hf
    simp only [decide_eq_true_eq] at h2
    simp only [Option.map_some, Option.some.injEq] at h
    rw [← h2, ← h]
    exact h1
end
theorem run_len_eL {α : Type} {f : α → D} {xs : List α} {G : DHp} {Q : DVK} : dLen [eL f xs] G Q = Q (.int xs.length) G := by
  rw [run_len (ds := xs.map f) rfl, List.length_map]
/-! ### rims_in -/
/-- the places whose rims have all cells but so many -/
def InRims (cells : List (Int × Int)) (radii : List Int) (missing : Int) (pl : Int × Int × Int) : Prop := pl ∈ visits cells radii ∧ ((rimL pl.2.2).length : Int) - missing ≤ cnt (visits cells radii) pl
def sp_rims_in : DRn := d3 fun dc dr dm G Q => ∃ (cells : List (Int × Int)) (radii : List Int) (missing : Int), dc = eL e2 cells ∧ dr = eL .int radii ∧ dm = .int missing ∧ cells.length ≤ 200 ∧ radii.length ≤ 10 ∧ (∀ r ∈ radii, 0 ≤ r ∧ r ≤ 10) ∧
  ∀ ys : List (Int × Int × Int), ys.Nodup → (∀ pl, pl ∈ ys ↔ InRims cells radii missing pl) → Q (eT e3 (srtT e3 ys)) G
abbrev N_rims_in : List Str := ["cells", "radii", "missing", "found", "place", "many"]
def T_rims_in : DTS :=
    (dSeq (dAsg (dLstM dNil) (gdName 3))
    (dSeq (dFor (diItems (dCB sp_votes (dCons (dName 0) (dCons (dName 1) dNil)))) (gdTup (gdCons (gdName 4) (gdCons (gdName 5) gdNil)) 2)
    (dIfS (dTest (dOp dGe (dName 5) (dOp dSub (dCB dLen (dCons (dCB sp_rim (dCons (dOp dIx (dName 4) (dC (.int 2))) dNil)) dNil)) (dName 2))))
    (dDrop (dM "list" dAppend (dName 3) (dCons (dName 4) dNil)))
    dNext))
    (dFrz 3 (dRet (dCB dTuple (dCons (dFz (dCB dSorted (dCons (dName 3) dNil))) dNil))))))
theorem len_rims_in : ∀ ds G Q, sp_rims_in ds G Q → ds.length = 3 := fun ds G Q h => by
  match ds, h with
  | [_, _, _], _ => rfl
theorem visit_r {cells : List (Int × Int)} {radii : List Int} {pl : Int × Int × Int} (h : pl ∈ visits cells radii) : pl.2.2 ∈ radii := by
  unfold visits at h
  obtain ⟨r, hr, h⟩ := List.mem_flatMap.mp h
  unfold V1 at h
  obtain ⟨d, _, h⟩ := List.mem_flatMap.mp h
  unfold V2 at h
  obtain ⟨c, _, rfl⟩ := List.mem_map.mp h
  exact hr
theorem pairs_eD {kvs : List ((Int × Int × Int) × Int)} : dicP (eD k3 .int kvs) = some (kvs.map fun p => (e3 p.1, .int p.2)) := by
  unfold eD dicP
  show some ((((enc k3 D.int kvs).map (·.1)).map nkD).zip ((enc k3 D.int kvs).map (·.2))) = _
  have : ∀ kvs : List ((Int × Int × Int) × Int), (((enc k3 D.int kvs).map (·.1)).map nkD).zip ((enc k3 D.int kvs).map (·.2)) = kvs.map fun p => (e3 p.1, .int p.2) := by
    intro kvs
    induction kvs with
    | nil => rfl
    | cons p kvs ih =>
      show (nkD (k3 p.1), D.int p.2) :: _ = _
      rw [nkD_k3, List.map_cons]
      exact congrArg _ ih
  rw [this]
theorem run_ix {ds : List D} {i : Int} {d : D} {G : DHp} {Q : DVK} (h0 : 0 ≤ i) (e : ds[i.toNat]? = some d) (q : Q d G) : dIx (.nd .tup ds) (.int i) G Q := by
  show atD ds (.int i) fun d => Q d G
  exact atD_get h0 e q
theorem run_rims_in : ∀ ds G Q, sp_rims_in ds G Q → T_rims_in { nx := fun _ G' => Q .non G', rt := Q } (startD N_rims_in ds) G := fun ds G Q h => by
  match ds, h with
  | [_, _, _], ⟨cells, radii, missing, rfl, rfl, rfl, hc, hr, hrr, q⟩ =>
    simp only [T_rims_in, N_rims_in, dSeq, dIfS, dTest, dOp, dName, dC, dRet, dLstF, dCons, dNil, dTup, dNext, dAsg, dLstM, gdName, dDrop, dM, dM0, dIf, dAnd, dOr, dNot, dAndV, dOrV, dNotV, dChain, dFz, dRetF, dRetN, dBreak, dCont, dCB, gdTup, gdCons, gdNil, gdSub, dNeg, dAug, dAugS, dFrz, dPar, dNoPart, dPart, dSlice, dYes, wipeD, i2, d1, d2, d3, startD, List.map_cons, List.map_nil, List.length_cons, List.length_nil, List.cons_append, List.nil_append, List.append_nil, List.getElem?_cons_zero, List.getElem?_cons_succ, List.getElem?_nil, List.replicate, List.set_cons_succ, List.set_cons_zero, Nat.reduceAdd, Nat.reduceSub, Nat.reduceLeDiff, run_eqi, run_nei, run_lt, run_le, run_gt, run_ge, run_addi, run_iaddi, true_and, and_true, Bool.not_eq_true, Bool.not_true, Bool.not_false, if_true, if_false, Bool.false_eq_true, ite_true, ite_false, reduceIte, reduceCtorEq, decide_eq_true_eq, decide_eq_false_iff_not]
    intro p hp
    refine ⟨cells, radii, rfl, rfl, hc, hr, hrr, fun kvs cn => ?_⟩
    simp only [pairs_eD]
    have hkl : kvs.length ≤ 882000 := by
      have h1 := cn.le
      have h2 : (visits cells radii).length ≤ radii.length * 88200 := len_flatMap fun r hr' => by
        have h3 : (V1 cells r).length ≤ (rimL r).length * 200 := len_flatMap fun d _ => by unfold V2; rw [List.length_map]; exact hc
        have h4 := rim_len (hrr r hr').1 (hrr r hr').2
        refine Nat.le_trans h3 (Nat.le_trans (Nat.mul_le_mul_right 200 h4) (by decide))
      have h5 : radii.length * 88200 ≤ 10 * 88200 := Nat.mul_le_mul_right _ hr
      exact Nat.le_trans h1 (Nat.le_trans h2 (Nat.le_trans h5 (by decide)))
    have good : ((Int × Int × Int) × Int) → Bool := fun p => decide (((rimL p.1.2.2).length : Int) - missing ≤ p.2)
    refine ⟨fun i η G' => η = [some (eL e2 cells), some (eL .int radii), some (.int missing), some (.ref p), none, none] ∧ ∃ acc : List (Int × Int × Int), acc = ((kvs.take i).filter fun p => decide (((rimL p.1.2.2).length : Int) - missing ≤ p.2)).map (·.1) ∧ G' = up G p (.lst (acc.map e3)), ⟨rfl, [], by simp, rfl⟩, fun _ _ _ _ => trivial, ?_, ?_⟩
    · rintro i d η G' hd ⟨rfl, acc, hacc, rfl⟩
      rw [List.map_map] at hd
      obtain ⟨⟨pl, m⟩, hi, rfl⟩ := get_map hd
      have hmem : pl ∈ visits cells radii := (cn.mem pl).mp (List.mem_map.mpr ⟨_, List.mem_of_getElem? hi, rfl⟩)
      have hr1 := hrr _ (visit_r hmem)
      simp only [Function.comp, e3, dSeq, dIfS, dTest, dOp, dName, dC, dRet, dLstF, dCons, dNil, dTup, dNext, dAsg, dLstM, gdName, dDrop, dM, dM0, dIf, dAnd, dOr, dNot, dAndV, dOrV, dNotV, dChain, dFz, dRetF, dRetN, dBreak, dCont, dCB, gdTup, gdCons, gdNil, gdSub, dNeg, dAug, dAugS, dFrz, dPar, dNoPart, dPart, dSlice, dYes, wipeD, i2, d1, d2, d3, startD, List.map_cons, List.map_nil, List.length_cons, List.length_nil, List.cons_append, List.nil_append, List.append_nil, List.getElem?_cons_zero, List.getElem?_cons_succ, List.getElem?_nil, List.replicate, List.set_cons_succ, List.set_cons_zero, Nat.reduceAdd, Nat.reduceSub, Nat.reduceLeDiff, run_eqi, run_nei, run_lt, run_le, run_gt, run_ge, run_addi, run_iaddi, true_and, and_true, Bool.not_eq_true, Bool.not_true, Bool.not_false, if_true, if_false, Bool.false_eq_true, ite_true, ite_false, reduceIte, reduceCtorEq, decide_eq_true_eq, decide_eq_false_iff_not]
      refine run_ix (by decide) rfl ?_
      refine ⟨pl.2.2, rfl, hr1.1, by omega, ?_⟩
      simp only [run_len_eL, dSeq, dIfS, dTest, dOp, dName, dC, dRet, dLstF, dCons, dNil, dTup, dNext, dAsg, dLstM, gdName, dDrop, dM, dM0, dIf, dAnd, dOr, dNot, dAndV, dOrV, dNotV, dChain, dFz, dRetF, dRetN, dBreak, dCont, dCB, gdTup, gdCons, gdNil, gdSub, dNeg, dAug, dAugS, dFrz, dPar, dNoPart, dPart, dSlice, dYes, wipeD, i2, d1, d2, d3, startD, List.map_cons, List.map_nil, List.length_cons, List.length_nil, List.cons_append, List.nil_append, List.append_nil, List.getElem?_cons_zero, List.getElem?_cons_succ, List.getElem?_nil, List.replicate, List.set_cons_succ, List.set_cons_zero, Nat.reduceAdd, Nat.reduceSub, Nat.reduceLeDiff, run_eqi, run_nei, run_lt, run_le, run_gt, run_ge, run_addi, run_iaddi, true_and, and_true, Bool.not_eq_true, Bool.not_true, Bool.not_false, if_true, if_false, Bool.false_eq_true, ite_true, ite_false, reduceIte, reduceCtorEq, decide_eq_true_eq, decide_eq_false_iff_not]
      have hlen : acc.length < 1000000 := by
        rw [hacc, List.length_map]
        exact Nat.lt_of_le_of_lt (Nat.le_trans (List.length_filter_le _ _) (by rw [List.length_take]; exact Nat.min_le_right _ _)) (Nat.lt_of_le_of_lt hkl (by decide))
      by_cases c : ((rimL pl.2.2).length : Int) - missing ≤ m
      · rw [if_pos c]
        refine run_app up_same (small_line (by rw [List.length_map]; exact Nat.le_of_lt hlen)) ⟨_, (by repeat (first | exact Le.nil | apply Le.keep | apply Le.drop)), rfl, acc ++ [pl], ?_, by rw [up_up, List.map_append]; rfl⟩
        rw [take_snoc hi, List.filter_append, hacc]
        simp [c]
      · rw [if_neg c]
        refine ⟨_, (by repeat (first | exact Le.nil | apply Le.keep | apply Le.drop)), rfl, acc, ?_, rfl⟩
        rw [take_snoc hi, List.filter_append, hacc]
        simp [c]
    · rintro η G' ⟨rfl, acc, hacc, rfl⟩
      rw [List.length_map, List.length_map, List.take_length] at hacc
      simp only [up_same, dl_up hp, DO.tree, dSeq, dIfS, dTest, dOp, dName, dC, dRet, dLstF, dCons, dNil, dTup, dNext, dAsg, dLstM, gdName, dDrop, dM, dM0, dIf, dAnd, dOr, dNot, dAndV, dOrV, dNotV, dChain, dFz, dRetF, dRetN, dBreak, dCont, dCB, gdTup, gdCons, gdNil, gdSub, dNeg, dAug, dAugS, dFrz, dPar, dNoPart, dPart, dSlice, dYes, wipeD, i2, d1, d2, d3, startD, List.map_cons, List.map_nil, List.length_cons, List.length_nil, List.cons_append, List.nil_append, List.append_nil, List.getElem?_cons_zero, List.getElem?_cons_succ, List.getElem?_nil, List.replicate, List.set_cons_succ, List.set_cons_zero, Nat.reduceAdd, Nat.reduceSub, Nat.reduceLeDiff, run_eqi, run_nei, run_lt, run_le, run_gt, run_ge, run_addi, run_iaddi, true_and, and_true, Bool.not_eq_true, Bool.not_true, Bool.not_false, if_true, if_false, Bool.false_eq_true, ite_true, ite_false, reduceIte, reduceCtorEq, decide_eq_true_eq, decide_eq_false_iff_not]
      refine run_sorted (f := e3) (xs := acc) rfl clean_e3 al3 (st3 acc) (fun a => Nat.le_trans (depth_e3 a) (by decide)) fun b hb => ?_
      simp only [up_same, dl_up hb, DO.tree, dSeq, dIfS, dTest, dOp, dName, dC, dRet, dLstF, dCons, dNil, dTup, dNext, dAsg, dLstM, gdName, dDrop, dM, dM0, dIf, dAnd, dOr, dNot, dAndV, dOrV, dNotV, dChain, dFz, dRetF, dRetN, dBreak, dCont, dCB, gdTup, gdCons, gdNil, gdSub, dNeg, dAug, dAugS, dFrz, dPar, dNoPart, dPart, dSlice, dYes, wipeD, i2, d1, d2, d3, startD, List.map_cons, List.map_nil, List.length_cons, List.length_nil, List.cons_append, List.nil_append, List.append_nil, List.getElem?_cons_zero, List.getElem?_cons_succ, List.getElem?_nil, List.replicate, List.set_cons_succ, List.set_cons_zero, Nat.reduceAdd, Nat.reduceSub, Nat.reduceLeDiff, run_eqi, run_nei, run_lt, run_le, run_gt, run_ge, run_addi, run_iaddi, true_and, and_true, Bool.not_eq_true, Bool.not_true, Bool.not_false, if_true, if_false, Bool.false_eq_true, ite_true, ite_false, reduceIte, reduceCtorEq, decide_eq_true_eq, decide_eq_false_iff_not]
      have hnd : acc.Nodup := by
        rw [hacc]
        exact (List.Pairwise.sublist ((List.filter_sublist).map _) cn.nd)
      show Q (.nd .tup ((srtT e3 acc).map e3)) G
      refine q acc hnd fun pl => ?_
      rw [hacc]
      unfold InRims
      constructor
      · intro hm
        obtain ⟨z, hz, rfl⟩ := List.mem_map.mp hm
        have hz := List.mem_filter.mp hz
        have h1 := of_decide_eq_true hz.2
        have hg := aget_of_mem (a := z.1) (m := z.2) cn.nd hz.1
        obtain ⟨hv, e⟩ := cnt_of cn hg
        exact ⟨hv, by rw [← e]; exact h1⟩
      · rintro ⟨hv, hle⟩
        exact List.mem_map.mpr ⟨(pl, (cnt (visits cells radii) pl : Int)), List.mem_filter.mpr ⟨mem_of_aget (cnt_get cn hv), decide_eq_true hle⟩, rfl⟩
end M
namespace M
open PySem PySem.Spec PyProof.Rows L2 DL

/-! ### shared_cells -/
def shiftP (o : Int × Int × Int) (d : Int × Int) : Int × Int := (o.1 + d.1, o.2.1 + d.2)
def ringAt (o : Int × Int × Int) : List (Int × Int) := (rimL o.2.2).map (shiftP o)
def sharedN (one other : Int × Int × Int) : Nat := ((rimL other.2.2).filter fun d => decide (shiftP other d ∈ ringAt one)).length
def sp_shared_cells : DRn := d2 fun da db G Q => ∃ one other : Int × Int × Int, da = e3 one ∧ db = e3 other ∧ (0 ≤ one.2.2 ∧ one.2.2 ≤ 10) ∧ (0 ≤ other.2.2 ∧ other.2.2 ≤ 10) ∧ Q (.int (sharedN one other)) G
abbrev N_shared_cells : List Str := ["one", "other", "cells", "x", "y"]
def T_shared_cells : DTS :=
    (dSeq (dAsg (dFz (dDc (.dN []) (diSeq (dCB sp_rim (dCons (dOp dIx (dName 0) (dC (.int 2))) dNil))) (gdTup (gdCons (gdName 3) (gdCons (gdName 4) gdNil)) 2) dYes (dTup (dCons (dOp dAdd (dOp dIx (dName 0) (dC (.int 0))) (dName 3)) (dCons (dOp dAdd (dOp dIx (dName 0) (dC (.int 1))) (dName 4)) dNil))) (dC (.bl true)) [3, 4])) (gdName 2))
    (dRet (dCB dLen (dCons (dFz (dLc (diSeq (dCB sp_rim (dCons (dOp dIx (dName 1) (dC (.int 2))) dNil))) (gdTup (gdCons (gdName 3) (gdCons (gdName 4) gdNil)) 2) (dTest (dOp (dIn false) (dTup (dCons (dOp dAdd (dOp dIx (dName 1) (dC (.int 0))) (dName 3)) (dCons (dOp dAdd (dOp dIx (dName 1) (dC (.int 1))) (dName 4)) dNil))) (dName 2))) (dTup (dCons (dName 3) (dCons (dName 4) dNil))) [3, 4])) dNil))))
theorem len_shared_cells : ∀ ds G Q, sp_shared_cells ds G Q → ds.length = 2 := fun ds G Q h => by
  match ds, h with
  | [_, _], _ => rfl
theorem no_lst {G : DHp} {p : Addr} {kvs : List (NestedKey × D)} (h : G p = some (.dN kvs)) (xs : List D) : G p ≠ some (.lst xs) := by rw [h]; exact (nomatch ·)
theorem aput_mem {α β : Type} [DecidableEq α] (kvs : List (α × β)) (a c : α) (b : β) : c ∈ (aput kvs a b).map (·.1) ↔ c ∈ kvs.map (·.1) ∨ c = a := by
  rw [aput_keys]
  split
  · rename_i h
    rw [aget_mem] at h
    constructor
    · exact .inl
    · rintro (h' | rfl)
      · exact h'
      · exact h
  · rw [List.mem_append, List.mem_singleton]
theorem run_shared_cells : ∀ ds G Q, sp_shared_cells ds G Q → T_shared_cells { nx := fun _ G' => Q .non G', rt := Q } (startD N_shared_cells ds) G := fun ds G Q h => by
  match ds, h with
  | [_, _], ⟨one, other, rfl, rfl, h1, h2, q⟩ =>
    simp only [T_shared_cells, N_shared_cells, dDc, diSeq, e3, dSeq, dIfS, dTest, dOp, dName, dC, dRet, dLstF, dCons, dNil, dTup, dNext, dAsg, dLstM, gdName, dDrop, dM, dM0, dIf, dAnd, dOr, dNot, dAndV, dOrV, dNotV, dChain, dFz, dRetF, dRetN, dBreak, dCont, dCB, gdTup, gdCons, gdNil, gdSub, dNeg, dAug, dAugS, dFrz, dPar, dNoPart, dPart, dSlice, dYes, wipeD, i2, d1, d2, d3, startD, List.map_cons, List.map_nil, List.length_cons, List.length_nil, List.cons_append, List.nil_append, List.append_nil, List.getElem?_cons_zero, List.getElem?_cons_succ, List.getElem?_nil, List.replicate, List.set_cons_succ, List.set_cons_zero, Nat.reduceAdd, Nat.reduceSub, Nat.reduceLeDiff, run_eqi, run_nei, run_lt, run_le, run_gt, run_ge, run_addi, run_iaddi, true_and, and_true, Bool.not_eq_true, Bool.not_true, Bool.not_false, if_true, if_false, Bool.false_eq_true, ite_true, ite_false, reduceIte, reduceCtorEq, decide_eq_true_eq, decide_eq_false_iff_not]
    refine run_ix (by decide) rfl ⟨one.2.2, rfl, h1.1, by omega, ?_⟩
    intro p hp
    refine ⟨fun i G' => ∃ kvs : List ((Int × Int) × Bool), G' = up G p (.dN (enc k2 .bl kvs)) ∧ (∀ c, c ∈ kvs.map (·.1) ↔ c ∈ ((rimL one.2.2).take i).map (shiftP one)) ∧ kvs.length ≤ i, ⟨[], rfl, by simp, Nat.le_refl _⟩, ?_, ?_, ?_⟩
    · rintro i G' ⟨kvs, rfl, _, _⟩
      exact ⟨trivial, no_lst up_same⟩
    · rintro i d G' hd ⟨kvs, rfl, hm, hl⟩
      obtain ⟨dd, hi, rfl⟩ := get_map hd
      have hi' : i < 441 := Nat.lt_of_lt_of_le (List.getElem?_eq_some_iff.mp hi).1 (rim_len h1.1 h1.2)
      simp only [e2, dSeq, dIfS, dTest, dOp, dName, dC, dRet, dLstF, dCons, dNil, dTup, dNext, dAsg, dLstM, gdName, dDrop, dM, dM0, dIf, dAnd, dOr, dNot, dAndV, dOrV, dNotV, dChain, dFz, dRetF, dRetN, dBreak, dCont, dCB, gdTup, gdCons, gdNil, gdSub, dNeg, dAug, dAugS, dFrz, dPar, dNoPart, dPart, dSlice, dYes, wipeD, i2, d1, d2, d3, startD, List.map_cons, List.map_nil, List.length_cons, List.length_nil, List.cons_append, List.nil_append, List.append_nil, List.getElem?_cons_zero, List.getElem?_cons_succ, List.getElem?_nil, List.replicate, List.set_cons_succ, List.set_cons_zero, Nat.reduceAdd, Nat.reduceSub, Nat.reduceLeDiff, run_eqi, run_nei, run_lt, run_le, run_gt, run_ge, run_addi, run_iaddi, true_and, and_true, Bool.not_eq_true, Bool.not_true, Bool.not_false, if_true, if_false, Bool.false_eq_true, ite_true, ite_false, reduceIte, reduceCtorEq, decide_eq_true_eq, decide_eq_false_iff_not]
      refine run_ix (by decide) rfl ?_
      simp only [dSeq, dIfS, dTest, dOp, dName, dC, dRet, dLstF, dCons, dNil, dTup, dNext, dAsg, dLstM, gdName, dDrop, dM, dM0, dIf, dAnd, dOr, dNot, dAndV, dOrV, dNotV, dChain, dFz, dRetF, dRetN, dBreak, dCont, dCB, gdTup, gdCons, gdNil, gdSub, dNeg, dAug, dAugS, dFrz, dPar, dNoPart, dPart, dSlice, dYes, wipeD, i2, d1, d2, d3, startD, List.map_cons, List.map_nil, List.length_cons, List.length_nil, List.cons_append, List.nil_append, List.append_nil, List.getElem?_cons_zero, List.getElem?_cons_succ, List.getElem?_nil, List.replicate, List.set_cons_succ, List.set_cons_zero, Nat.reduceAdd, Nat.reduceSub, Nat.reduceLeDiff, run_eqi, run_nei, run_lt, run_le, run_gt, run_ge, run_addi, run_iaddi, true_and, and_true, Bool.not_eq_true, Bool.not_true, Bool.not_false, if_true, if_false, Bool.false_eq_true, ite_true, ite_false, reduceIte, reduceCtorEq, decide_eq_true_eq, decide_eq_false_iff_not]
      refine run_ix (by decide) rfl ?_
      simp only [dSeq, dIfS, dTest, dOp, dName, dC, dRet, dLstF, dCons, dNil, dTup, dNext, dAsg, dLstM, gdName, dDrop, dM, dM0, dIf, dAnd, dOr, dNot, dAndV, dOrV, dNotV, dChain, dFz, dRetF, dRetN, dBreak, dCont, dCB, gdTup, gdCons, gdNil, gdSub, dNeg, dAug, dAugS, dFrz, dPar, dNoPart, dPart, dSlice, dYes, wipeD, i2, d1, d2, d3, startD, List.map_cons, List.map_nil, List.length_cons, List.length_nil, List.cons_append, List.nil_append, List.append_nil, List.getElem?_cons_zero, List.getElem?_cons_succ, List.getElem?_nil, List.replicate, List.set_cons_succ, List.set_cons_zero, Nat.reduceAdd, Nat.reduceSub, Nat.reduceLeDiff, run_eqi, run_nei, run_lt, run_le, run_gt, run_ge, run_addi, run_iaddi, true_and, and_true, Bool.not_eq_true, Bool.not_true, Bool.not_false, if_true, if_false, Bool.false_eq_true, ite_true, ite_false, reduceIte, reduceCtorEq, decide_eq_true_eq, decide_eq_false_iff_not]
      refine ⟨no_lst up_same, run_set tk2 (a := shiftP one dd) (b := true) (f := D.bl) up_same (small_line (by omega)) ⟨_, by rw [up_up], fun c => ?_, ?_⟩⟩
      · rw [aput_mem, hm, take_snoc hi, List.map_append, List.mem_append]
        simp
      · exact Nat.le_trans (aput_len _ _ _) (by omega)
    · rintro G' ⟨kvs, rfl, hm, hl⟩
      rw [List.length_map, List.take_length] at hm
      simp only [up_same, dl_up hp, tree_eD, dLc, diSeq, dSeq, dIfS, dTest, dOp, dName, dC, dRet, dLstF, dCons, dNil, dTup, dNext, dAsg, dLstM, gdName, dDrop, dM, dM0, dIf, dAnd, dOr, dNot, dAndV, dOrV, dNotV, dChain, dFz, dRetF, dRetN, dBreak, dCont, dCB, gdTup, gdCons, gdNil, gdSub, dNeg, dAug, dAugS, dFrz, dPar, dNoPart, dPart, dSlice, dYes, wipeD, i2, d1, d2, d3, startD, List.map_cons, List.map_nil, List.length_cons, List.length_nil, List.cons_append, List.nil_append, List.append_nil, List.getElem?_cons_zero, List.getElem?_cons_succ, List.getElem?_nil, List.replicate, List.set_cons_succ, List.set_cons_zero, Nat.reduceAdd, Nat.reduceSub, Nat.reduceLeDiff, run_eqi, run_nei, run_lt, run_le, run_gt, run_ge, run_addi, run_iaddi, true_and, and_true, Bool.not_eq_true, Bool.not_true, Bool.not_false, if_true, if_false, Bool.false_eq_true, ite_true, ite_false, reduceIte, reduceCtorEq, decide_eq_true_eq, decide_eq_false_iff_not]
      refine run_ix (by decide) rfl ⟨other.2.2, rfl, h2.1, by omega, ?_⟩
      intro b hb
      refine ⟨fun i acc G' => ∃ zs : List (Int × Int), zs = ((rimL other.2.2).take i).filter (fun d => decide (shiftP other d ∈ ringAt one)) ∧ acc = zs.map e2 ∧ G' = up G b (.lst acc), ⟨[], by simp, rfl, rfl⟩, ?_, ?_, ?_⟩
      · rintro i acc G' ⟨zs, _, rfl, rfl⟩
        exact ⟨trivial, up_same⟩
      · rintro i d acc G' hd ⟨zs, hz, rfl, rfl⟩
        obtain ⟨dd, hi, rfl⟩ := get_map hd
        simp only [e2, dSeq, dIfS, dTest, dOp, dName, dC, dRet, dLstF, dCons, dNil, dTup, dNext, dAsg, dLstM, gdName, dDrop, dM, dM0, dIf, dAnd, dOr, dNot, dAndV, dOrV, dNotV, dChain, dFz, dRetF, dRetN, dBreak, dCont, dCB, gdTup, gdCons, gdNil, gdSub, dNeg, dAug, dAugS, dFrz, dPar, dNoPart, dPart, dSlice, dYes, wipeD, i2, d1, d2, d3, startD, List.map_cons, List.map_nil, List.length_cons, List.length_nil, List.cons_append, List.nil_append, List.append_nil, List.getElem?_cons_zero, List.getElem?_cons_succ, List.getElem?_nil, List.replicate, List.set_cons_succ, List.set_cons_zero, Nat.reduceAdd, Nat.reduceSub, Nat.reduceLeDiff, run_eqi, run_nei, run_lt, run_le, run_gt, run_ge, run_addi, run_iaddi, true_and, and_true, Bool.not_eq_true, Bool.not_true, Bool.not_false, if_true, if_false, Bool.false_eq_true, ite_true, ite_false, reduceIte, reduceCtorEq, decide_eq_true_eq, decide_eq_false_iff_not]
        refine run_ix (by decide) rfl ?_
        simp only [dSeq, dIfS, dTest, dOp, dName, dC, dRet, dLstF, dCons, dNil, dTup, dNext, dAsg, dLstM, gdName, dDrop, dM, dM0, dIf, dAnd, dOr, dNot, dAndV, dOrV, dNotV, dChain, dFz, dRetF, dRetN, dBreak, dCont, dCB, gdTup, gdCons, gdNil, gdSub, dNeg, dAug, dAugS, dFrz, dPar, dNoPart, dPart, dSlice, dYes, wipeD, i2, d1, d2, d3, startD, List.map_cons, List.map_nil, List.length_cons, List.length_nil, List.cons_append, List.nil_append, List.append_nil, List.getElem?_cons_zero, List.getElem?_cons_succ, List.getElem?_nil, List.replicate, List.set_cons_succ, List.set_cons_zero, Nat.reduceAdd, Nat.reduceSub, Nat.reduceLeDiff, run_eqi, run_nei, run_lt, run_le, run_gt, run_ge, run_addi, run_iaddi, true_and, and_true, Bool.not_eq_true, Bool.not_true, Bool.not_false, if_true, if_false, Bool.false_eq_true, ite_true, ite_false, reduceIte, reduceCtorEq, decide_eq_true_eq, decide_eq_false_iff_not]
        refine run_ix (by decide) rfl ?_
        simp only [dSeq, dIfS, dTest, dOp, dName, dC, dRet, dLstF, dCons, dNil, dTup, dNext, dAsg, dLstM, gdName, dDrop, dM, dM0, dIf, dAnd, dOr, dNot, dAndV, dOrV, dNotV, dChain, dFz, dRetF, dRetN, dBreak, dCont, dCB, gdTup, gdCons, gdNil, gdSub, dNeg, dAug, dAugS, dFrz, dPar, dNoPart, dPart, dSlice, dYes, wipeD, i2, d1, d2, d3, startD, List.map_cons, List.map_nil, List.length_cons, List.length_nil, List.cons_append, List.nil_append, List.append_nil, List.getElem?_cons_zero, List.getElem?_cons_succ, List.getElem?_nil, List.replicate, List.set_cons_succ, List.set_cons_zero, Nat.reduceAdd, Nat.reduceSub, Nat.reduceLeDiff, run_eqi, run_nei, run_lt, run_le, run_gt, run_ge, run_addi, run_iaddi, true_and, and_true, Bool.not_eq_true, Bool.not_true, Bool.not_false, if_true, if_false, Bool.false_eq_true, ite_true, ite_false, reduceIte, reduceCtorEq, decide_eq_true_eq, decide_eq_false_iff_not]
        refine run_inD tk2 (a := shiftP other dd) (dicN_eD k2 D.bl kvs _) ?_
        have hzl : zs.length < 1000000 := by
          rw [hz]
          exact Nat.lt_of_le_of_lt (Nat.le_trans (List.length_filter_le _ _) (by rw [List.length_take]; exact Nat.min_le_right _ _)) (Nat.lt_of_le_of_lt (rim_len h2.1 h2.2) (by decide))
        have hb2 : (aget kvs (shiftP other dd)).isSome = decide (shiftP other dd ∈ ringAt one) := by
          rw [Bool.eq_iff_iff, aget_mem, hm, decide_eq_true_eq]
          rfl
        rw [hb2]
        by_cases c : shiftP other dd ∈ ringAt one
        · simp only [decide_eq_true c, Bool.false_bne, dSeq, dIfS, dTest, dOp, dName, dC, dRet, dLstF, dCons, dNil, dTup, dNext, dAsg, dLstM, gdName, dDrop, dM, dM0, dIf, dAnd, dOr, dNot, dAndV, dOrV, dNotV, dChain, dFz, dRetF, dRetN, dBreak, dCont, dCB, gdTup, gdCons, gdNil, gdSub, dNeg, dAug, dAugS, dFrz, dPar, dNoPart, dPart, dSlice, dYes, wipeD, i2, d1, d2, d3, startD, List.map_cons, List.map_nil, List.length_cons, List.length_nil, List.cons_append, List.nil_append, List.append_nil, List.getElem?_cons_zero, List.getElem?_cons_succ, List.getElem?_nil, List.replicate, List.set_cons_succ, List.set_cons_zero, Nat.reduceAdd, Nat.reduceSub, Nat.reduceLeDiff, run_eqi, run_nei, run_lt, run_le, run_gt, run_ge, run_addi, run_iaddi, true_and, and_true, Bool.not_eq_true, Bool.not_true, Bool.not_false, if_true, if_false, Bool.false_eq_true, ite_true, ite_false, reduceIte, reduceCtorEq, decide_eq_true_eq, decide_eq_false_iff_not]
          refine ⟨small_line (by rw [List.length_map]; exact Nat.le_of_lt hzl), up_same, zs ++ [dd], ?_, ?_, by rw [up_up]⟩
          · rw [take_snoc hi, List.filter_append, hz]
            simp [c]
          · rw [List.map_append]; rfl
        · simp only [decide_eq_false c, Bool.false_bne, dSeq, dIfS, dTest, dOp, dName, dC, dRet, dLstF, dCons, dNil, dTup, dNext, dAsg, dLstM, gdName, dDrop, dM, dM0, dIf, dAnd, dOr, dNot, dAndV, dOrV, dNotV, dChain, dFz, dRetF, dRetN, dBreak, dCont, dCB, gdTup, gdCons, gdNil, gdSub, dNeg, dAug, dAugS, dFrz, dPar, dNoPart, dPart, dSlice, dYes, wipeD, i2, d1, d2, d3, startD, List.map_cons, List.map_nil, List.length_cons, List.length_nil, List.cons_append, List.nil_append, List.append_nil, List.getElem?_cons_zero, List.getElem?_cons_succ, List.getElem?_nil, List.replicate, List.set_cons_succ, List.set_cons_zero, Nat.reduceAdd, Nat.reduceSub, Nat.reduceLeDiff, run_eqi, run_nei, run_lt, run_le, run_gt, run_ge, run_addi, run_iaddi, true_and, and_true, Bool.not_eq_true, Bool.not_true, Bool.not_false, if_true, if_false, Bool.false_eq_true, ite_true, ite_false, reduceIte, reduceCtorEq, decide_eq_true_eq, decide_eq_false_iff_not]
          refine ⟨zs, ?_, rfl⟩
          rw [take_snoc hi, List.filter_append, hz]
          simp [c]
      · rintro acc G' ⟨zs, hz, rfl, rfl⟩
        rw [List.length_map, List.take_length] at hz
        simp only [up_same, dl_up hb, DO.tree, dSeq, dIfS, dTest, dOp, dName, dC, dRet, dLstF, dCons, dNil, dTup, dNext, dAsg, dLstM, gdName, dDrop, dM, dM0, dIf, dAnd, dOr, dNot, dAndV, dOrV, dNotV, dChain, dFz, dRetF, dRetN, dBreak, dCont, dCB, gdTup, gdCons, gdNil, gdSub, dNeg, dAug, dAugS, dFrz, dPar, dNoPart, dPart, dSlice, dYes, wipeD, i2, d1, d2, d3, startD, List.map_cons, List.map_nil, List.length_cons, List.length_nil, List.cons_append, List.nil_append, List.append_nil, List.getElem?_cons_zero, List.getElem?_cons_succ, List.getElem?_nil, List.replicate, List.set_cons_succ, List.set_cons_zero, Nat.reduceAdd, Nat.reduceSub, Nat.reduceLeDiff, run_eqi, run_nei, run_lt, run_le, run_gt, run_ge, run_addi, run_iaddi, true_and, and_true, Bool.not_eq_true, Bool.not_true, Bool.not_false, if_true, if_false, Bool.false_eq_true, ite_true, ite_false, reduceIte, reduceCtorEq, decide_eq_true_eq, decide_eq_false_iff_not]
        have := @run_len_eL (Int × Int) e2 zs G Q
        show dLen [eL e2 zs] G Q
        rw [this, hz]
        exact q
/-! ### is_barred -/
def sharedSum (one : Int × Int × Int) (others : List (Int × Int × Int)) : Int := (others.map fun o => (sharedN one o : Int)).sum
def sp_is_barred : DRn := d3 fun dp dl dm G Q => ∃ (one : Int × Int × Int) (others : List (Int × Int × Int)) (missing : Int), dp = e3 one ∧ dl = eL e3 others ∧ dm = .int missing ∧ (0 ≤ one.2.2 ∧ one.2.2 ≤ 10) ∧ others.length ≤ 100 ∧ (∀ o ∈ others, 0 ≤ o.2.2 ∧ o.2.2 ≤ 10) ∧
  Q (.bl (decide (sharedSum one others < ((rimL one.2.2).length : Int) - missing))) G
abbrev N_is_barred : List Str := ["place", "others", "missing", "shared", "other"]
def T_is_barred : DTS :=
    (dSeq (dAsg (dCB dSum (dCons (dFz (dLc (diSeq (dName 1)) (gdName 4) dYes (dCB sp_shared_cells (dCons (dName 0) (dCons (dName 4) dNil))) [4])) dNil)) (gdName 3))
    (dRet (dOp dLt (dName 3) (dOp dSub (dCB dLen (dCons (dCB sp_rim (dCons (dOp dIx (dName 0) (dC (.int 2))) dNil)) dNil)) (dName 2)))))
theorem len_is_barred : ∀ ds G Q, sp_is_barred ds G Q → ds.length = 3 := fun ds G Q h => by
  match ds, h with
  | [_, _, _], _ => rfl
theorem run_is_barred : ∀ ds G Q, sp_is_barred ds G Q → T_is_barred { nx := fun _ G' => Q .non G', rt := Q } (startD N_is_barred ds) G := fun ds G Q h => by
  match ds, h with
  | [_, _, _], ⟨one, others, missing, rfl, rfl, rfl, h1, hlo, hoo, q⟩ =>
    simp only [T_is_barred, N_is_barred, dLc, diSeq, dSeq, dIfS, dTest, dOp, dName, dC, dRet, dLstF, dCons, dNil, dTup, dNext, dAsg, dLstM, gdName, dDrop, dM, dM0, dIf, dAnd, dOr, dNot, dAndV, dOrV, dNotV, dChain, dFz, dRetF, dRetN, dBreak, dCont, dCB, gdTup, gdCons, gdNil, gdSub, dNeg, dAug, dAugS, dFrz, dPar, dNoPart, dPart, dSlice, dYes, wipeD, i2, d1, d2, d3, startD, List.map_cons, List.map_nil, List.length_cons, List.length_nil, List.cons_append, List.nil_append, List.append_nil, List.getElem?_cons_zero, List.getElem?_cons_succ, List.getElem?_nil, List.replicate, List.set_cons_succ, List.set_cons_zero, Nat.reduceAdd, Nat.reduceSub, Nat.reduceLeDiff, run_eqi, run_nei, run_lt, run_le, run_gt, run_ge, run_addi, run_iaddi, true_and, and_true, Bool.not_eq_true, Bool.not_true, Bool.not_false, if_true, if_false, Bool.false_eq_true, ite_true, ite_false, reduceIte, reduceCtorEq, decide_eq_true_eq, decide_eq_false_iff_not]
    intro p hp
    refine ⟨fun i acc G' => acc = ((others.take i).map fun o => (sharedN one o : Int)).map .int ∧ G' = up G p (.lst acc), ⟨rfl, rfl⟩, ?_, ?_, ?_⟩
    · rintro i acc G' ⟨rfl, rfl⟩
      exact ⟨trivial, up_same⟩
    · rintro i d acc G' hd ⟨rfl, rfl⟩
      obtain ⟨o, hi, rfl⟩ := get_map hd
      have hi' : i < 100 := Nat.lt_of_lt_of_le (List.getElem?_eq_some_iff.mp hi).1 hlo
      simp only [dSeq, dIfS, dTest, dOp, dName, dC, dRet, dLstF, dCons, dNil, dTup, dNext, dAsg, dLstM, gdName, dDrop, dM, dM0, dIf, dAnd, dOr, dNot, dAndV, dOrV, dNotV, dChain, dFz, dRetF, dRetN, dBreak, dCont, dCB, gdTup, gdCons, gdNil, gdSub, dNeg, dAug, dAugS, dFrz, dPar, dNoPart, dPart, dSlice, dYes, wipeD, i2, d1, d2, d3, startD, List.map_cons, List.map_nil, List.length_cons, List.length_nil, List.cons_append, List.nil_append, List.append_nil, List.getElem?_cons_zero, List.getElem?_cons_succ, List.getElem?_nil, List.replicate, List.set_cons_succ, List.set_cons_zero, Nat.reduceAdd, Nat.reduceSub, Nat.reduceLeDiff, run_eqi, run_nei, run_lt, run_le, run_gt, run_ge, run_addi, run_iaddi, true_and, and_true, Bool.not_eq_true, Bool.not_true, Bool.not_false, if_true, if_false, Bool.false_eq_true, ite_true, ite_false, reduceIte, reduceCtorEq, decide_eq_true_eq, decide_eq_false_iff_not]
      refine ⟨one, o, rfl, rfl, h1, hoo o (List.mem_of_getElem? hi), small_line ?_, up_same, ?_, by rw [up_up]⟩
      · rw [List.length_map, List.length_map, List.length_take]
        exact Nat.le_trans (Nat.min_le_left _ _) (by omega)
      · rw [take_snoc hi, List.map_append, List.map_append]
        rfl
    · rintro acc G' ⟨rfl, rfl⟩
      rw [List.length_map, List.take_length]
      simp only [up_same, dl_up hp, DO.tree, dSeq, dIfS, dTest, dOp, dName, dC, dRet, dLstF, dCons, dNil, dTup, dNext, dAsg, dLstM, gdName, dDrop, dM, dM0, dIf, dAnd, dOr, dNot, dAndV, dOrV, dNotV, dChain, dFz, dRetF, dRetN, dBreak, dCont, dCB, gdTup, gdCons, gdNil, gdSub, dNeg, dAug, dAugS, dFrz, dPar, dNoPart, dPart, dSlice, dYes, wipeD, i2, d1, d2, d3, startD, List.map_cons, List.map_nil, List.length_cons, List.length_nil, List.cons_append, List.nil_append, List.append_nil, List.getElem?_cons_zero, List.getElem?_cons_succ, List.getElem?_nil, List.replicate, List.set_cons_succ, List.set_cons_zero, Nat.reduceAdd, Nat.reduceSub, Nat.reduceLeDiff, run_eqi, run_nei, run_lt, run_le, run_gt, run_ge, run_addi, run_iaddi, true_and, and_true, Bool.not_eq_true, Bool.not_true, Bool.not_false, if_true, if_false, Bool.false_eq_true, ite_true, ite_false, reduceIte, reduceCtorEq, decide_eq_true_eq, decide_eq_false_iff_not]
      refine ⟨others.map fun o => (sharedN one o : Int), rfl, ?_⟩
      simp only [e3, dSeq, dIfS, dTest, dOp, dName, dC, dRet, dLstF, dCons, dNil, dTup, dNext, dAsg, dLstM, gdName, dDrop, dM, dM0, dIf, dAnd, dOr, dNot, dAndV, dOrV, dNotV, dChain, dFz, dRetF, dRetN, dBreak, dCont, dCB, gdTup, gdCons, gdNil, gdSub, dNeg, dAug, dAugS, dFrz, dPar, dNoPart, dPart, dSlice, dYes, wipeD, i2, d1, d2, d3, startD, List.map_cons, List.map_nil, List.length_cons, List.length_nil, List.cons_append, List.nil_append, List.append_nil, List.getElem?_cons_zero, List.getElem?_cons_succ, List.getElem?_nil, List.replicate, List.set_cons_succ, List.set_cons_zero, Nat.reduceAdd, Nat.reduceSub, Nat.reduceLeDiff, run_eqi, run_nei, run_lt, run_le, run_gt, run_ge, run_addi, run_iaddi, true_and, and_true, Bool.not_eq_true, Bool.not_true, Bool.not_false, if_true, if_false, Bool.false_eq_true, ite_true, ite_false, reduceIte, reduceCtorEq, decide_eq_true_eq, decide_eq_false_iff_not]
      refine run_ix (by decide) rfl ⟨one.2.2, rfl, h1.1, by omega, ?_⟩
      simp only [run_len_eL, dSeq, dIfS, dTest, dOp, dName, dC, dRet, dLstF, dCons, dNil, dTup, dNext, dAsg, dLstM, gdName, dDrop, dM, dM0, dIf, dAnd, dOr, dNot, dAndV, dOrV, dNotV, dChain, dFz, dRetF, dRetN, dBreak, dCont, dCB, gdTup, gdCons, gdNil, gdSub, dNeg, dAug, dAugS, dFrz, dPar, dNoPart, dPart, dSlice, dYes, wipeD, i2, d1, d2, d3, startD, List.map_cons, List.map_nil, List.length_cons, List.length_nil, List.cons_append, List.nil_append, List.append_nil, List.getElem?_cons_zero, List.getElem?_cons_succ, List.getElem?_nil, List.replicate, List.set_cons_succ, List.set_cons_zero, Nat.reduceAdd, Nat.reduceSub, Nat.reduceLeDiff, run_eqi, run_nei, run_lt, run_le, run_gt, run_ge, run_addi, run_iaddi, true_and, and_true, Bool.not_eq_true, Bool.not_true, Bool.not_false, if_true, if_false, Bool.false_eq_true, ite_true, ite_false, reduceIte, reduceCtorEq, decide_eq_true_eq, decide_eq_false_iff_not]
      exact q
/-! ### _law_unlike -/
def sp__law_unlike : DRn := d1 fun d G Q => ∃ xs : List (Int × Int), d = eL e2 xs ∧ xs.length ≤ 1000 ∧ ∀ ys : List (Int × Int), ys.Nodup → (∀ y, y ∈ ys ↔ y ∈ xs) → Q (eL e2 ys) G
abbrev N__law_unlike : List Str := ["items", "found", "one"]
def T__law_unlike : DTS :=
    (dSeq (dAsg dNewN (gdName 1))
    (dSeq (dFor (diSeq (dName 0)) (gdName 2)
    (dAsg (dC (.bl true)) (gdSub (dName 1) (dName 2) dSet)))
    (dFrz 1 (dRet (dFz (dCB dSortedD (dCons (dName 1) dNil)))))))
theorem len__law_unlike : ∀ ds G Q, sp__law_unlike ds G Q → ds.length = 1 := fun ds G Q h => by
  match ds, h with
  | [_], _ => rfl
theorem run__law_unlike : ∀ ds G Q, sp__law_unlike ds G Q → T__law_unlike { nx := fun _ G' => Q .non G', rt := Q } (startD N__law_unlike ds) G := fun ds G Q h => by
  match ds, h with
  | [_], ⟨xs, rfl, hx, q⟩ =>
    simp only [T__law_unlike, N__law_unlike, dNewN, dSeq, dIfS, dTest, dOp, dName, dC, dRet, dLstF, dCons, dNil, dTup, dNext, dAsg, dLstM, gdName, dDrop, dM, dM0, dIf, dAnd, dOr, dNot, dAndV, dOrV, dNotV, dChain, dFz, dRetF, dRetN, dBreak, dCont, dCB, gdTup, gdCons, gdNil, gdSub, dNeg, dAug, dAugS, dFrz, dPar, dNoPart, dPart, dSlice, dYes, wipeD, i2, d1, d2, d3, startD, List.map_cons, List.map_nil, List.length_cons, List.length_nil, List.cons_append, List.nil_append, List.append_nil, List.getElem?_cons_zero, List.getElem?_cons_succ, List.getElem?_nil, List.replicate, List.set_cons_succ, List.set_cons_zero, Nat.reduceAdd, Nat.reduceSub, Nat.reduceLeDiff, run_eqi, run_nei, run_lt, run_le, run_gt, run_ge, run_addi, run_iaddi, true_and, and_true, Bool.not_eq_true, Bool.not_true, Bool.not_false, if_true, if_false, Bool.false_eq_true, ite_true, ite_false, reduceIte, reduceCtorEq, decide_eq_true_eq, decide_eq_false_iff_not]
    intro p hp
    refine ⟨fun i η G' => ∃ kvs : List ((Int × Int) × Bool), η = [some (eL e2 xs), some (.ref p), none] ∧ G' = up G p (.dN (enc k2 .bl kvs)) ∧ (kvs.map (·.1)).Nodup ∧ (∀ c, c ∈ kvs.map (·.1) ↔ c ∈ xs.take i) ∧ kvs.length ≤ i, ⟨[], rfl, rfl, List.nodup_nil, by simp, Nat.le_refl _⟩, fun _ _ _ _ => trivial, ?_, ?_⟩
    · rintro i d η G' hd ⟨kvs, rfl, rfl, nd, hm, hl⟩
      obtain ⟨x, hi, rfl⟩ := get_map hd
      have hi' : i < 1000 := Nat.lt_of_lt_of_le (List.getElem?_eq_some_iff.mp hi).1 hx
      simp only [dSeq, dIfS, dTest, dOp, dName, dC, dRet, dLstF, dCons, dNil, dTup, dNext, dAsg, dLstM, gdName, dDrop, dM, dM0, dIf, dAnd, dOr, dNot, dAndV, dOrV, dNotV, dChain, dFz, dRetF, dRetN, dBreak, dCont, dCB, gdTup, gdCons, gdNil, gdSub, dNeg, dAug, dAugS, dFrz, dPar, dNoPart, dPart, dSlice, dYes, wipeD, i2, d1, d2, d3, startD, List.map_cons, List.map_nil, List.length_cons, List.length_nil, List.cons_append, List.nil_append, List.append_nil, List.getElem?_cons_zero, List.getElem?_cons_succ, List.getElem?_nil, List.replicate, List.set_cons_succ, List.set_cons_zero, Nat.reduceAdd, Nat.reduceSub, Nat.reduceLeDiff, run_eqi, run_nei, run_lt, run_le, run_gt, run_ge, run_addi, run_iaddi, true_and, and_true, Bool.not_eq_true, Bool.not_true, Bool.not_false, if_true, if_false, Bool.false_eq_true, ite_true, ite_false, reduceIte, reduceCtorEq, decide_eq_true_eq, decide_eq_false_iff_not]
      refine run_set tk2 (a := x) (b := true) (f := D.bl) up_same (small_line (by omega)) ⟨_, (by repeat (first | exact Le.nil | apply Le.keep | apply Le.drop)), _, rfl, by rw [up_up], aput_nodup _ _ _ nd, fun c => ?_, ?_⟩
      · rw [aput_mem, hm, take_snoc hi, List.mem_append, List.mem_singleton]
      · exact Nat.le_trans (aput_len _ _ _) (by omega)
    · rintro η G' ⟨kvs, rfl, rfl, nd, hm, hl⟩
      rw [List.length_map, List.take_length] at hm
      simp only [up_same, dl_up hp, tree_eD, dSeq, dIfS, dTest, dOp, dName, dC, dRet, dLstF, dCons, dNil, dTup, dNext, dAsg, dLstM, gdName, dDrop, dM, dM0, dIf, dAnd, dOr, dNot, dAndV, dOrV, dNotV, dChain, dFz, dRetF, dRetN, dBreak, dCont, dCB, gdTup, gdCons, gdNil, gdSub, dNeg, dAug, dAugS, dFrz, dPar, dNoPart, dPart, dSlice, dYes, wipeD, i2, d1, d2, d3, startD, List.map_cons, List.map_nil, List.length_cons, List.length_nil, List.cons_append, List.nil_append, List.append_nil, List.getElem?_cons_zero, List.getElem?_cons_succ, List.getElem?_nil, List.replicate, List.set_cons_succ, List.set_cons_zero, Nat.reduceAdd, Nat.reduceSub, Nat.reduceLeDiff, run_eqi, run_nei, run_lt, run_le, run_gt, run_ge, run_addi, run_iaddi, true_and, and_true, Bool.not_eq_true, Bool.not_true, Bool.not_false, if_true, if_false, Bool.false_eq_true, ite_true, ite_false, reduceIte, reduceCtorEq, decide_eq_true_eq, decide_eq_false_iff_not]
      refine run_sortedD tk2 (dicN_eD k2 D.bl kvs _) al2 (st2 _) (fun a => Nat.le_trans (depth_e2 a) (by decide)) fun b hb => ?_
      simp only [up_same, dl_up hb, DO.tree, dSeq, dIfS, dTest, dOp, dName, dC, dRet, dLstF, dCons, dNil, dTup, dNext, dAsg, dLstM, gdName, dDrop, dM, dM0, dIf, dAnd, dOr, dNot, dAndV, dOrV, dNotV, dChain, dFz, dRetF, dRetN, dBreak, dCont, dCB, gdTup, gdCons, gdNil, gdSub, dNeg, dAug, dAugS, dFrz, dPar, dNoPart, dPart, dSlice, dYes, wipeD, i2, d1, d2, d3, startD, List.map_cons, List.map_nil, List.length_cons, List.length_nil, List.cons_append, List.nil_append, List.append_nil, List.getElem?_cons_zero, List.getElem?_cons_succ, List.getElem?_nil, List.replicate, List.set_cons_succ, List.set_cons_zero, Nat.reduceAdd, Nat.reduceSub, Nat.reduceLeDiff, run_eqi, run_nei, run_lt, run_le, run_gt, run_ge, run_addi, run_iaddi, true_and, and_true, Bool.not_eq_true, Bool.not_true, Bool.not_false, if_true, if_false, Bool.false_eq_true, ite_true, ite_false, reduceIte, reduceCtorEq, decide_eq_true_eq, decide_eq_false_iff_not]
      show Q (eL e2 (srtT e2 (kvs.map (·.1)))) G
      exact q _ ((srtT_perm e2 _).nodup_iff.mpr nd) fun y => by rw [(srtT_perm e2 _).mem_iff]; exact hm y
end M
namespace M
open PySem PySem.Spec PyProof.Rows L2 DL

/-! ### the law's sums, no program in sight -/
theorem le_pairs_rim {r : Int} (h0 : 0 ≤ r) (h1 : r < 6) : (rimL r).Pairwise fun a b => [a.1, a.2] ≤ [b.1, b.2] := by
  have : r = 0 ∨ r = 1 ∨ r = 2 ∨ r = 3 ∨ r = 4 ∨ r = 5 := by omega
  rcases this with rfl | rfl | rfl | rfl | rfl | rfl <;> decide +kernel
theorem srt_rim {r : Int} (h0 : 0 ≤ r) (h1 : r < 6) : srtT e2 (rimL r) = rimL r := srtT_id (g := fun a => [a.1, a.2]) le_e2 (le_pairs_rim h0 h1)
theorem rim_row {r : Int} {d : Int × Int} (hr : r ≠ 0) (h : d ∈ rimL r) : r * r - r < d.1 * d.1 + d.2 * d.2 ∧ d.1 * d.1 + d.2 * d.2 ≤ r * r + r ∧ -r ≤ d.1 ∧ d.1 ≤ r ∧ -r ≤ d.2 ∧ d.2 ≤ r := by
  unfold rimL at h
  rw [if_neg hr] at h
  obtain ⟨x, hx, h⟩ := List.mem_flatMap.mp h
  unfold rowL at h
  obtain ⟨y, hy, rfl⟩ := List.mem_map.mp h
  have hy := List.mem_filter.mp hy
  have h2 := of_decide_eq_true hy.2
  have hx := mem_range.mp hx
  have hy1 := mem_range.mp hy.1
  exact ⟨h2.1, h2.2, by omega, by omega, by omega, by omega⟩
theorem rim_abs {r : Int} {d : Int × Int} (h0 : 0 ≤ r) (h : d ∈ rimL r) : -r ≤ d.1 ∧ d.1 ≤ r ∧ -r ≤ d.2 ∧ d.2 ≤ r := by
  by_cases hr : r = 0
  · subst hr
    have h : d ∈ ([(0, 0)] : List (Int × Int)) := h
    rw [List.mem_singleton] at h
    subst h
    exact ⟨by decide, by decide, by decide, by decide⟩
  · have := rim_row hr h; omega
theorem tri_mono {a b : Int} (h0 : 0 ≤ a) (h : a ≤ b) : a * a + a ≤ b * b + b := by
  have := Int.mul_le_mul h h h0 (by omega)
  omega
/-- a cell is of one rim alone -/
theorem radius_one {r k : Int} {d : Int × Int} (h0 : 0 ≤ r) (hd : d ∈ rimL r) (k0 : 0 ≤ k) (h1 : d.1 * d.1 + d.2 * d.2 ≤ k * k + k) (h2 : k = 0 ∨ (k - 1) * (k - 1) + (k - 1) < d.1 * d.1 + d.2 * d.2) : k = r := by
  by_cases hr : r = 0
  · subst hr
    have hd : d ∈ ([(0, 0)] : List (Int × Int)) := hd
    rw [List.mem_singleton] at hd
    subst hd
    rcases h2 with h2 | h2
    · exact h2
    · have h2 : (k - 1) * (k - 1) + (k - 1) < 0 := h2
      by_cases z : k = 0
      · exact z
      · have : 0 ≤ (k - 1) * (k - 1) := Int.mul_nonneg (by omega) (by omega)
        omega
  · obtain ⟨g1, g2, _⟩ := rim_row hr hd
    have e : (r - 1) * (r - 1) + (r - 1) = r * r - r := by
      rw [Int.sub_mul, Int.mul_sub]
      omega
    rcases Int.lt_trichotomy k r with h | h | h
    · have := tri_mono k0 (show k ≤ r - 1 by omega)
      omega
    · exact h
    · rcases h2 with h2 | h2
      · omega
      · have := tri_mono h0 (show r ≤ k - 1 by omega)
        omega
theorem rim_near : ∀ x ∈ rangeL (-4) 5, ∀ y ∈ rangeL (-4) 5, ∀ r ∈ rangeL 0 7, x * x + y * y ≤ r * r + r → (r = 0 ∨ (r - 1) * (r - 1) + (r - 1) < x * x + y * y) → (x, y) ∈ rimL r := by decide +kernel
theorem rim_facts : ∀ r ∈ ([1, 2, 3] : List Int), (rimL r).Nodup ∧ (rimL r).length ≤ 49 ∧ 8 ≤ (rimL r).length := by decide +kernel
theorem r123 {r : Int} (h : 1 ≤ r ∧ r ≤ 3) : r ∈ ([1, 2, 3] : List Int) := by
  have : r = 1 ∨ r = 2 ∨ r = 3 := by omega
  rcases this with rfl | rfl | rfl <;> decide
theorem of123 {r : Int} (h : r ∈ ([1, 2, 3] : List Int)) : 1 ≤ r ∧ r ≤ 3 := by
  simp at h; omega
section
variable {α : Type} [DecidableEq α]
theorem cnt_nil (a : α) : cnt [] a = 0 := rfl
theorem cnt_cons (x : α) (L : List α) (a : α) : cnt (x :: L) a = cnt L a + if x = a then 1 else 0 := by
  unfold cnt
  rw [List.count_cons]
  by_cases h : x = a
  · simp [h]
  · simp [h]
theorem cnt_append (L M : List α) (a : α) : cnt (L ++ M) a = cnt L a + cnt M a := List.count_append
theorem cnt_pos {L : List α} {a : α} (h : 0 < cnt L a) : a ∈ L := List.count_pos_iff.mp h
theorem cnt_zero {L : List α} {a : α} (h : a ∉ L) : cnt L a = 0 := List.count_eq_zero.mpr h
theorem cnt_nodup {L : List α} (h : L.Nodup) (a : α) : cnt L a = if a ∈ L then 1 else 0 := by unfold cnt; exact h.count
/-- two lots without repeats have as many in common either way -/
theorem common_len {A B : List α} (hA : A.Nodup) (hB : B.Nodup) {p q : α → Bool} (hp : ∀ a, p a = true ↔ a ∈ B) (hq : ∀ a, q a = true ↔ a ∈ A) : (A.filter p).length = (B.filter q).length := by
  refine (nodup_perm (hA.filter _) (hB.filter _) fun a => ?_).length_eq
  rw [List.mem_filter, List.mem_filter, hp, hq]
  exact And.comm
end
/-- the cells of a rim that are bright -/
def brightN (cells : List (Int × Int)) (pl : Int × Int × Int) : Nat := ((rimL pl.2.2).filter fun d => decide (shiftP pl d ∈ cells)).length
theorem cnt_V2 (r : Int) (d : Int × Int) (pl : Int × Int × Int) : ∀ cells : List (Int × Int), cnt (V2 cells r d) pl = if pl.2.2 = r then cnt cells (shiftP pl d) else 0
  | [] => by unfold V2; rw [List.map_nil, cnt_nil]; split <;> rfl
  | c :: cells => by
    have ih := cnt_V2 r d pl cells
    unfold V2 at ih ⊢
    rw [List.map_cons, cnt_cons, ih]
    by_cases h : pl.2.2 = r
    · rw [if_pos h, if_pos h, cnt_cons]
      congr 1
      have : (V3 r d c = pl) ↔ (c = shiftP pl d) := by
        obtain ⟨p1, p2, p3⟩ := pl
        obtain ⟨c1, c2⟩ := c
        have h : p3 = r := h
        simp only [V3, shiftP, Prod.mk.injEq]
        omega
      by_cases z : c = shiftP pl d
      · rw [if_pos z, if_pos (this.mpr z)]
      · rw [if_neg z, if_neg fun q => z (this.mp q)]
    · rw [if_neg h, if_neg h]
      have : ¬ V3 r d c = pl := fun e => h (by rw [← e]; rfl)
      rw [if_neg this]
theorem cnt_V1 {cells : List (Int × Int)} (hc : cells.Nodup) (r : Int) (pl : Int × Int × Int) : cnt (V1 cells r) pl = if pl.2.2 = r then brightN cells pl else 0 := by
  have go : ∀ ds : List (Int × Int), cnt (ds.flatMap (V2 cells r)) pl = if pl.2.2 = r then (ds.filter fun d => decide (shiftP pl d ∈ cells)).length else 0 := by
    intro ds
    induction ds with
    | nil => rw [List.flatMap_nil, cnt_nil]; split <;> rfl
    | cons d ds ih =>
      rw [List.flatMap_cons, cnt_append, ih, cnt_V2]
      by_cases h : pl.2.2 = r
      · rw [if_pos h, if_pos h, if_pos h, cnt_nodup hc, List.filter_cons]
        by_cases z : shiftP pl d ∈ cells
        · rw [if_pos z, if_pos (decide_eq_true z), List.length_cons]; omega
        · rw [if_neg z, if_neg (by simpa using z)]; omega
      · rw [if_neg h, if_neg h, if_neg h]
  unfold V1
  rw [go]
  by_cases h : pl.2.2 = r
  · rw [if_pos h, if_pos h]; unfold brightN; rw [h]
  · rw [if_neg h, if_neg h]
theorem cnt_visits {cells : List (Int × Int)} (hc : cells.Nodup) {pl : Int × Int × Int} (h : 1 ≤ pl.2.2 ∧ pl.2.2 ≤ 3) : cnt (visits cells [1, 2, 3]) pl = brightN cells pl := by
  unfold visits
  rw [List.flatMap_cons, List.flatMap_cons, List.flatMap_cons, List.flatMap_nil, List.append_nil, cnt_append, cnt_append, cnt_V1 hc, cnt_V1 hc, cnt_V1 hc]
  have : pl.2.2 = 1 ∨ pl.2.2 = 2 ∨ pl.2.2 = 3 := by omega
  rcases this with e | e | e <;> rw [e] <;> simp
theorem ring_nodup {o : Int × Int × Int} (h : 1 ≤ o.2.2 ∧ o.2.2 ≤ 3) : (ringAt o).Nodup := by
  unfold ringAt
  refine List.pairwise_map.mpr (List.Pairwise.imp (fun {a b} hab e => hab ?_) (rim_facts _ (r123 h)).1)
  obtain ⟨a1, a2⟩ := a
  obtain ⟨b1, b2⟩ := b
  simp only [shiftP, Prod.mk.injEq] at e ⊢
  omega
def sharedM (one o : Int × Int × Int) : Nat := ((rimL one.2.2).filter fun d => decide (shiftP one d ∈ ringAt o)).length
theorem shared_sym {one o : Int × Int × Int} (h : 1 ≤ one.2.2 ∧ one.2.2 ≤ 3) (h2 : 1 ≤ o.2.2 ∧ o.2.2 ≤ 3) : sharedN one o = sharedM one o := by
  have e : ∀ (a b : Int × Int × Int), ((rimL a.2.2).filter fun d => decide (shiftP a d ∈ ringAt b)).length = ((ringAt a).filter fun c => decide (c ∈ ringAt b)).length := fun a b => by
    unfold ringAt
    rw [List.filter_map, List.length_map]
    rfl
  unfold sharedN sharedM
  rw [e o one, e one o]
  exact common_len (ring_nodup h2) (ring_nodup h) (fun _ => decide_eq_true_iff) (fun _ => decide_eq_true_iff)
theorem sum_ge {one : Int × Int × Int} {cells : List (Int × Int)} : ∀ {others : List (Int × Int × Int)}, (∀ c, c ∈ cells → ∃ o ∈ others, c ∈ ringAt o) → (brightN cells one : Int) ≤ (others.map fun o => (sharedM one o : Int)).sum := by
  intro others h
  have go : ∀ (ds : List (Int × Int)), ((ds.filter fun d => decide (shiftP one d ∈ cells)).length : Int) ≤ (others.map fun o => ((ds.filter fun d => decide (shiftP one d ∈ ringAt o)).length : Int)).sum := by
    intro ds
    induction ds with
    | nil =>
      have : ∀ os : List (Int × Int × Int), (0 : Int) ≤ (os.map fun o => (((([] : List (Int × Int)).filter fun d => decide (shiftP one d ∈ ringAt o)).length : Nat) : Int)).sum := by
        intro os
        induction os with
        | nil => simp
        | cons o os ih => simpa using ih
      exact this others
    | cons d ds ih =>
      have step : ∀ os : List (Int × Int × Int), (os.map fun o => ((((d :: ds).filter fun d => decide (shiftP one d ∈ ringAt o)).length : Nat) : Int)).sum = (os.map fun o => (((ds.filter fun d => decide (shiftP one d ∈ ringAt o)).length : Nat) : Int)).sum + (os.map fun o => if shiftP one d ∈ ringAt o then (1 : Int) else 0).sum := by
        intro os
        induction os with
        | nil => simp
        | cons o os ih2 =>
          rw [List.map_cons, List.sum_cons, ih2, List.map_cons, List.sum_cons, List.map_cons, List.sum_cons, List.filter_cons]
          by_cases z : shiftP one d ∈ ringAt o
          · rw [if_pos (decide_eq_true z), if_pos z, List.length_cons]; omega
          · rw [if_neg (by simpa using z), if_neg z]; omega
      have nn : ∀ os : List (Int × Int × Int), (0 : Int) ≤ (os.map fun o => if shiftP one d ∈ ringAt o then (1 : Int) else 0).sum := by
        intro os
        induction os with
        | nil => simp
        | cons o os ih2 => rw [List.map_cons, List.sum_cons]; split <;> omega
      have one_le : ∀ os : List (Int × Int × Int), (∃ o ∈ os, shiftP one d ∈ ringAt o) → (1 : Int) ≤ (os.map fun o => if shiftP one d ∈ ringAt o then (1 : Int) else 0).sum := by
        intro os
        induction os with
        | nil => rintro ⟨o, h, _⟩; cases h
        | cons o os ih2 =>
          rintro ⟨o', h', hh⟩
          rw [List.map_cons, List.sum_cons]
          have := nn os
          rcases List.mem_cons.mp h' with rfl | h'
          · rw [if_pos hh]; omega
          · have := ih2 ⟨o', h', hh⟩
            split <;> omega
      rw [step]
      rw [List.filter_cons]
      by_cases z : shiftP one d ∈ cells
      · rw [if_pos (decide_eq_true z), List.length_cons]
        have := one_le others (h _ z)
        omega
      · rw [if_neg (by simpa using z)]
        have := nn others
        omega
  exact go _
/-- the places looked at whose rims are there -/
def dueL (cells : List (Int × Int)) (missing : Int) : List (Int × Int × Int) := ([1, 2, 3] : List Int).flatMap fun r => (rangeL (-6) 20).flatMap fun x => ((rangeL (-6) 20).filter fun y => decide (((rimL r).length : Int) - missing ≤ brightN cells (x, y, r))).map fun y => (x, y, r)
theorem due_mem {cells : List (Int × Int)} {missing : Int} {pl : Int × Int × Int} : pl ∈ dueL cells missing ↔ (1 ≤ pl.2.2 ∧ pl.2.2 ≤ 3) ∧ (-6 ≤ pl.1 ∧ pl.1 < 20) ∧ (-6 ≤ pl.2.1 ∧ pl.2.1 < 20) ∧ ((rimL pl.2.2).length : Int) - missing ≤ brightN cells pl := by
  obtain ⟨x, y, r⟩ := pl
  unfold dueL
  constructor
  · intro h
    obtain ⟨r', hr, h⟩ := List.mem_flatMap.mp h
    obtain ⟨x', hx, h⟩ := List.mem_flatMap.mp h
    obtain ⟨y', hy, e⟩ := List.mem_map.mp h
    cases e
    have hy := List.mem_filter.mp hy
    exact ⟨of123 hr, mem_range.mp hx, mem_range.mp hy.1, of_decide_eq_true hy.2⟩
  · rintro ⟨hr, hx, hy, h⟩
    exact List.mem_flatMap.mpr ⟨r, r123 hr, List.mem_flatMap.mpr ⟨x, mem_range.mpr hx, List.mem_map.mpr ⟨y, List.mem_filter.mpr ⟨mem_range.mpr hy, decide_eq_true h⟩, rfl⟩⟩⟩
theorem nodup_flatMap {α β : Type} {f : α → List β} : ∀ {xs : List α}, xs.Nodup → (∀ x ∈ xs, (f x).Nodup) → (∀ a ∈ xs, ∀ b ∈ xs, ∀ z, z ∈ f a → z ∈ f b → a = b) → (xs.flatMap f).Nodup
  | [], _, _, _ => List.nodup_nil
  | x :: xs, h, h1, h2 => by
    rw [List.nodup_cons] at h
    rw [List.flatMap_cons, List.nodup_append]
    refine ⟨h1 x (by simp), nodup_flatMap h.2 (fun y hy => h1 y (by simp [hy])) (fun a ha b hb => h2 a (by simp [ha]) b (by simp [hb])), fun a ha b hb e => ?_⟩
    subst e
    obtain ⟨y, hy, hz⟩ := List.mem_flatMap.mp hb
    have := h2 x (by simp) y (by simp [hy]) a ha hz
    subst this
    exact h.1 hy
theorem due_nodup (cells : List (Int × Int)) (missing : Int) : (dueL cells missing).Nodup := by
  unfold dueL
  refine nodup_flatMap (by decide) (fun r _ => nodup_flatMap (range_nodup _ _) (fun x _ => ?_) fun a _ b _ z h1 h2 => ?_) fun a _ b _ z h1 h2 => ?_
  · refine List.pairwise_map.mpr (List.Pairwise.imp (fun {a b} hab e => hab ?_) ((range_nodup _ _).filter _))
    simp only [Prod.mk.injEq] at e
    exact e.2.1
  · obtain ⟨y, _, rfl⟩ := List.mem_map.mp h1
    obtain ⟨y', _, e⟩ := List.mem_map.mp h2
    simp only [Prod.mk.injEq] at e
    exact e.1.symm
  · obtain ⟨x, _, h1⟩ := List.mem_flatMap.mp h1
    obtain ⟨y, _, rfl⟩ := List.mem_map.mp h1
    obtain ⟨x', _, h2⟩ := List.mem_flatMap.mp h2
    obtain ⟨y', _, e⟩ := List.mem_map.mp h2
    simp only [Prod.mk.injEq] at e
    exact e.2.2.symm
/-- what is told is what is due -/
theorem in_due {cells : List (Int × Int)} (hc : cells.Nodup) (hb : ∀ c ∈ cells, -3 ≤ c.1 ∧ c.1 ≤ 11 ∧ -3 ≤ c.2 ∧ c.2 ≤ 11) {missing : Int} (hm : missing ≤ 3) (pl : Int × Int × Int) : InRims cells [1, 2, 3] missing pl ↔ pl ∈ dueL cells missing := by
  rw [due_mem]
  unfold InRims
  constructor
  · rintro ⟨hv, hle⟩
    have hr := of123 (visit_r hv)
    rw [cnt_visits hc hr] at hle
    refine ⟨hr, ?_, ?_, hle⟩
    all_goals
      unfold visits at hv
      obtain ⟨r, hr', hv⟩ := List.mem_flatMap.mp hv
      unfold V1 at hv
      obtain ⟨d, hd, hv⟩ := List.mem_flatMap.mp hv
      unfold V2 at hv
      obtain ⟨c, hcc, rfl⟩ := List.mem_map.mp hv
      have h1 := hb c hcc
      have h2 := of123 hr'
      have h3 := rim_abs (by omega) hd
      simp only [V3]
      omega
  · rintro ⟨hr, _, _, hle⟩
    rw [cnt_visits hc hr]
    refine ⟨cnt_pos ?_, hle⟩
    rw [cnt_visits hc hr]
    have := (rim_facts _ (r123 hr)).2.2
    omega
end M
namespace M
open PySem PySem.Spec PyProof.Rows L2 DL

abbrev N_law : List Str := ["script", "draw", "radius", "cells", "x", "y", "placed", "radii", "missing", "due", "shown", "known", "ring", "many", "one", "others", "whole", "shared", "turn", "right", "down", "cell", "other"]
def U_law_0 : DTS :=
    (dAsg (dLstM (dCons (dName 0) (dCons (dC (.int 0)) dNil))) (gdName 1))
def U_law_1 : DTS :=
    (dFor (diRange1 (dCons (dC (.int 6)) dNil)) (gdName 2)
    (dSeq (dAsg (dCB sp_rim (dCons (dName 2) dNil)) (gdName 3))
    (dIfS (dOr (dNot (dTest (dCB dAll (dCons (dFz (dLc (diSeq (dName 3)) (gdTup (gdCons (gdName 4) (gdCons (gdName 5) gdNil)) 2) dYes (dOp dEq (dCB sp_radius_of (dCons (dName 4) (dCons (dName 5) dNil))) (dName 2)) [4, 5])) dNil)))) (dTest (dOp dNe (dName 3) (dFz (dCB dSorted (dCons (dName 3) dNil))))))
    (dRet (dC (.bl false)))
    dNext)))
def U_law_2 : DTS :=
    (dFor (diRange2 (dCons (dNeg (dC (.int 4))) (dCons (dC (.int 5)) dNil))) (gdName 4)
    (dFor (diRange2 (dCons (dNeg (dC (.int 4))) (dCons (dC (.int 5)) dNil))) (gdName 5)
    (dIfS (dTest (dOp (dIn true) (dTup (dCons (dName 4) (dCons (dName 5) dNil))) (dCB sp_rim (dCons (dCB sp_radius_of (dCons (dName 4) (dCons (dName 5) dNil))) dNil))))
    (dRet (dC (.bl false)))
    dNext)))
def U_law_3 : DTS :=
    (dAsg (dLstM dNil) (gdName 3))
def U_law_4 : DTS :=
    (dAsg (dLc (diRange1 (dCons (dOp dAdd (dC (.int 1)) (dCB sp__law_take (dCons (dName 1) (dCons (dC (.int 3)) dNil)))) dNil)) (gdName 18) dYes (dTup (dCons (dCB sp__law_take (dCons (dName 1) (dCons (dC (.int 9)) dNil))) (dCons (dCB sp__law_take (dCons (dName 1) (dCons (dC (.int 9)) dNil))) (dCons (dOp dAdd (dC (.int 1)) (dCB sp__law_take (dCons (dName 1) (dCons (dC (.int 3)) dNil)))) dNil)))) [18]) (gdName 6))
def U_law_5 : DTS :=
    (dFor (diSeq (dName 6)) (gdTup (gdCons (gdName 4) (gdCons (gdName 5) (gdCons (gdName 2) gdNil))) 3)
    (dAug 3 (dFz (dLc (diSeq (dCB sp_rim (dCons (dName 2) dNil))) (gdTup (gdCons (gdName 19) (gdCons (gdName 20) gdNil)) 2) (dTest (dOp dGt (dCB sp__law_take (dCons (dName 1) (dCons (dC (.int 12)) dNil))) (dC (.int 0)))) (dTup (dCons (dOp dAdd (dName 4) (dName 19)) (dCons (dOp dAdd (dName 5) (dName 20)) dNil))) [19, 20])) dIAdd))
def U_law_6 : DTS :=
    (dAsg (dCB sp__law_unlike (dCons (dOp dAdd (dName 3) (dFz (dLc (diRange1 (dCons (dCB sp__law_take (dCons (dName 1) (dCons (dC (.int 5)) dNil))) dNil)) (gdName 18) dYes (dTup (dCons (dCB sp__law_take (dCons (dName 1) (dCons (dC (.int 12)) dNil))) (dCons (dCB sp__law_take (dCons (dName 1) (dCons (dC (.int 12)) dNil))) dNil))) [18]))) dNil)) (gdName 3))
def U_law_7 : DTS :=
    (dAsg (dTup (dCons (dLstF (dCons (dC (.int 1)) (dCons (dC (.int 2)) (dCons (dC (.int 3)) dNil)))) (dCons (dCB sp__law_take (dCons (dName 1) (dCons (dC (.int 4)) dNil))) (dCons (dLstM dNil) (dCons (dFz (dCB dDictN (dCons (dFz (dLc (diSeq (dName 3)) (gdName 21) dYes (dTup (dCons (dName 21) (dCons (dC (.bl true)) dNil))) [21])) dNil))) dNil))))) (gdTup (gdCons (gdName 7) (gdCons (gdName 8) (gdCons (gdName 9) (gdCons (gdName 10) gdNil)))) 4))
def U_law_8 : DTS :=
    (dAsg (dCB sp_votes (dCons (dName 3) (dCons (dName 7) dNil))) (gdName 11))
def U_law_9 : DTS :=
    (dFor (diSeq (dName 7)) (gdName 2)
    (dSeq (dAsg (dCB sp_rim (dCons (dName 2) dNil)) (gdName 12))
    (dFor (diRange2 (dCons (dNeg (dC (.int 6))) (dCons (dC (.int 20)) dNil))) (gdName 4)
    (dFor (diRange2 (dCons (dNeg (dC (.int 6))) (dCons (dC (.int 20)) dNil))) (gdName 5)
    (dSeq (dAsg (dCB dLen (dCons (dFz (dLc (diSeq (dName 12)) (gdTup (gdCons (gdName 19) (gdCons (gdName 20) gdNil)) 2) (dTest (dOp (dIn false) (dTup (dCons (dOp dAdd (dName 4) (dName 19)) (dCons (dOp dAdd (dName 5) (dName 20)) dNil))) (dName 10))) (dC (.int 1)) [19, 20])) dNil)) (gdName 13))
    (dSeq (dIfS (dTest (dOp dNe (dM "dict" dGet2 (dName 11) (dCons (dTup (dCons (dName 4) (dCons (dName 5) (dCons (dName 2) dNil)))) (dCons (dC (.int 0)) dNil))) (dName 13)))
    (dRet (dC (.bl false)))
    dNext)
    (dIfS (dTest (dOp dGe (dName 13) (dOp dSub (dCB dLen (dCons (dName 12) dNil)) (dName 8))))
    (dDrop (dM "list" dAppend (dName 9) (dCons (dTup (dCons (dName 4) (dCons (dName 5) (dCons (dName 2) dNil)))) dNil)))
    dNext)))))))
def U_law_10 : DTS :=
    (dIfS (dTest (dOp dNe (dCB sp_rims_in (dCons (dName 3) (dCons (dName 7) (dCons (dName 8) dNil)))) (dCB dTuple (dCons (dFz (dCB dSorted (dCons (dName 9) dNil))) dNil))))
    (dRet (dC (.bl false)))
    dNext)
def U_law_11 : DTS :=
    (dAsg (dTup (dCons (dTup (dCons (dCB sp__law_take (dCons (dName 1) (dCons (dC (.int 9)) dNil))) (dCons (dCB sp__law_take (dCons (dName 1) (dCons (dC (.int 9)) dNil))) (dCons (dOp dAdd (dC (.int 1)) (dCB sp__law_take (dCons (dName 1) (dCons (dC (.int 3)) dNil)))) dNil)))) (dCons (dName 6) dNil))) (gdTup (gdCons (gdName 14) (gdCons (gdName 15) gdNil)) 2))
def U_law_12 : DTS :=
    (dAsg (dLstM dNil) (gdName 16))
def U_law_13 : DTS :=
    (dFor (diSeq (dName 15)) (gdTup (gdCons (gdName 4) (gdCons (gdName 5) (gdCons (gdName 2) gdNil))) 3)
    (dAug 16 (dFz (dLc (diSeq (dCB sp_rim (dCons (dName 2) dNil))) (gdTup (gdCons (gdName 19) (gdCons (gdName 20) gdNil)) 2) dYes (dTup (dCons (dOp dAdd (dName 4) (dName 19)) (dCons (dOp dAdd (dName 5) (dName 20)) dNil))) [19, 20])) dIAdd))
def U_law_14 : DTS :=
    (dAsg (dLc (diSeq (dName 15)) (gdName 22) dYes (dCB dLen (dCons (dFz (dLc (diSeq (dCB sp_rim (dCons (dOp dIx (dName 14) (dC (.int 2))) dNil))) (gdTup (gdCons (gdName 4) (gdCons (gdName 5) gdNil)) 2) (dTest (dOp (dIn false) (dTup (dCons (dOp dSub (dOp dAdd (dOp dIx (dName 14) (dC (.int 0))) (dName 4)) (dOp dIx (dName 22) (dC (.int 0)))) (dCons (dOp dSub (dOp dAdd (dOp dIx (dName 14) (dC (.int 1))) (dName 5)) (dOp dIx (dName 22) (dC (.int 1)))) dNil))) (dCB sp_rim (dCons (dOp dIx (dName 22) (dC (.int 2))) dNil)))) (dC (.int 1)) [4, 5])) dNil)) [22]) (gdName 17))
def U_law_15 : DTS :=
    (dIfS (dTest (dOp dNe (dFz (dLc (diSeq (dName 15)) (gdName 22) dYes (dCB sp_shared_cells (dCons (dName 14) (dCons (dName 22) dNil))) [22])) (dName 17)))
    (dRet (dC (.bl false)))
    dNext)
def U_law_16 : DTS :=
    (dIfS (dTest (dOp dNe (dCB sp_is_barred (dCons (dName 14) (dCons (dName 15) (dCons (dName 8) dNil)))) (dOp dLt (dCB dSum (dCons (dName 17) dNil)) (dOp dSub (dCB dLen (dCons (dCB sp_rim (dCons (dOp dIx (dName 14) (dC (.int 2))) dNil)) dNil)) (dName 8)))))
    (dRet (dC (.bl false)))
    dNext)
def U_law_17 : DTS :=
    (dRet (dOrV (dNotV (dCB sp_is_barred (dCons (dName 14) (dCons (dName 15) (dCons (dName 8) dNil))))) (dOp (dIn true) (dName 14) (dCB sp_rims_in (dCons (dCB sp__law_unlike (dCons (dName 16) dNil)) (dCons (dName 7) (dCons (dName 8) dNil)))))))
def T_law_17 : DTS :=
    (dFrz 16 U_law_17)
def T_law_16 : DTS :=
    (dSeq U_law_16 T_law_17)
def T_law_15 : DTS :=
    (dSeq U_law_15 T_law_16)
def T_law_14 : DTS :=
    (dSeq U_law_14 (dFrz 17 T_law_15))
def T_law_13 : DTS :=
    (dSeq U_law_13 T_law_14)
def T_law_12 : DTS :=
    (dSeq U_law_12 T_law_13)
def T_law_11 : DTS :=
    (dSeq U_law_11 T_law_12)
def T_law_10 : DTS :=
    (dSeq U_law_10 T_law_11)
def T_law_9 : DTS :=
    (dSeq U_law_9 T_law_10)
def T_law_8 : DTS :=
    (dSeq U_law_8 T_law_9)
def T_law_7 : DTS :=
    (dSeq U_law_7 T_law_8)
def T_law_6 : DTS :=
    (dSeq U_law_6 T_law_7)
def T_law_5 : DTS :=
    (dSeq U_law_5 T_law_6)
def T_law_4 : DTS :=
    (dSeq U_law_4 (dFrz 6 T_law_5))
def T_law_3 : DTS :=
    (dSeq U_law_3 T_law_4)
def T_law_2 : DTS :=
    (dSeq U_law_2 T_law_3)
def T_law_1 : DTS :=
    (dSeq U_law_1 T_law_2)
def T_law : DTS :=
    (dSeq U_law_0 T_law_1)
def stL (sc : D) (a : Addr) (cells placed radii missing due shown known one others whole shared : Option D) : DSt := [some sc, some (.ref a), none, cells, none, none, placed, radii, missing, due, shown, known, none, none, one, others, whole, shared, none, none, none, none, none]
theorem get_rep {α : Type} {n : Nat} {x : α} {bs : List α} (h : ∀ b ∈ bs, b = x) : bs = List.replicate bs.length x := List.eq_replicate_iff.mpr ⟨rfl, h⟩
theorem u1 {F : DEnds} {sc : D} {a : Addr} {G : DHp} (k : F.nx (stL sc a none none none none none none none none none none none) G) : U_law_1 F (stL sc a none none none none none none none none none none none) G := by
  refine ⟨⟨by decide, by decide⟩, fun i η G' => η = stL sc a none none none none none none none none none none none ∧ G' = G, ⟨rfl, rfl⟩, fun _ _ _ _ => trivial, ?_, ?_⟩
  · rintro i d η G' hd ⟨rfl, rfl⟩
    obtain ⟨r, hi, rfl⟩ := get_map hd
    have hr := mem_range.mp (List.mem_of_getElem? hi)
    simp only [stL, dSeq, dIfS, dTest, dOp, dName, dC, dRet, dLstF, dCons, dNil, dTup, dNext, dAsg, dLstM, gdName, dDrop, dM, dM0, dIf, dAnd, dOr, dNot, dAndV, dOrV, dNotV, dChain, dFz, dRetF, dRetN, dBreak, dCont, dCB, gdTup, gdCons, gdNil, gdSub, dNeg, dAug, dAugS, dFrz, dPar, dNoPart, dPart, dSlice, dYes, wipeD, i2, d1, d2, d3, startD, List.map_cons, List.map_nil, List.length_cons, List.length_nil, List.cons_append, List.nil_append, List.append_nil, List.getElem?_cons_zero, List.getElem?_cons_succ, List.getElem?_nil, List.replicate, List.set_cons_succ, List.set_cons_zero, Nat.reduceAdd, Nat.reduceSub, Nat.reduceLeDiff, run_eqi, run_nei, run_lt, run_le, run_gt, run_ge, run_addi, run_iaddi, true_and, and_true, Bool.not_eq_true, Bool.not_true, Bool.not_false, if_true, if_false, Bool.false_eq_true, ite_true, ite_false, reduceIte, reduceCtorEq, decide_eq_true_eq, decide_eq_false_iff_not]
    refine ⟨r, rfl, hr.1, by omega, ?_⟩
    simp only [dLc, diSeq, dSeq, dIfS, dTest, dOp, dName, dC, dRet, dLstF, dCons, dNil, dTup, dNext, dAsg, dLstM, gdName, dDrop, dM, dM0, dIf, dAnd, dOr, dNot, dAndV, dOrV, dNotV, dChain, dFz, dRetF, dRetN, dBreak, dCont, dCB, gdTup, gdCons, gdNil, gdSub, dNeg, dAug, dAugS, dFrz, dPar, dNoPart, dPart, dSlice, dYes, wipeD, i2, d1, d2, d3, startD, List.map_cons, List.map_nil, List.length_cons, List.length_nil, List.cons_append, List.nil_append, List.append_nil, List.getElem?_cons_zero, List.getElem?_cons_succ, List.getElem?_nil, List.replicate, List.set_cons_succ, List.set_cons_zero, Nat.reduceAdd, Nat.reduceSub, Nat.reduceLeDiff, run_eqi, run_nei, run_lt, run_le, run_gt, run_ge, run_addi, run_iaddi, true_and, and_true, Bool.not_eq_true, Bool.not_true, Bool.not_false, if_true, if_false, Bool.false_eq_true, ite_true, ite_false, reduceIte, reduceCtorEq, decide_eq_true_eq, decide_eq_false_iff_not]
    intro p hp
    refine ⟨fun i acc G'' => acc = List.replicate i (.bl true) ∧ i ≤ (rimL r).length ∧ G'' = up G' p (.lst acc), ⟨rfl, Nat.zero_le _, rfl⟩, ?_, ?_, ?_⟩
    · rintro i acc G'' ⟨_, _, rfl⟩
      exact ⟨trivial, up_same⟩
    · rintro i d acc G'' hd ⟨rfl, hl, rfl⟩
      obtain ⟨dd, hi, rfl⟩ := get_map hd
      have hdd := rim_abs hr.1 (List.mem_of_getElem? hi)
      have hlt := (List.getElem?_eq_some_iff.mp hi).1
      simp only [e2, dSeq, dIfS, dTest, dOp, dName, dC, dRet, dLstF, dCons, dNil, dTup, dNext, dAsg, dLstM, gdName, dDrop, dM, dM0, dIf, dAnd, dOr, dNot, dAndV, dOrV, dNotV, dChain, dFz, dRetF, dRetN, dBreak, dCont, dCB, gdTup, gdCons, gdNil, gdSub, dNeg, dAug, dAugS, dFrz, dPar, dNoPart, dPart, dSlice, dYes, wipeD, i2, d1, d2, d3, startD, List.map_cons, List.map_nil, List.length_cons, List.length_nil, List.cons_append, List.nil_append, List.append_nil, List.getElem?_cons_zero, List.getElem?_cons_succ, List.getElem?_nil, List.replicate, List.set_cons_succ, List.set_cons_zero, Nat.reduceAdd, Nat.reduceSub, Nat.reduceLeDiff, run_eqi, run_nei, run_lt, run_le, run_gt, run_ge, run_addi, run_iaddi, true_and, and_true, Bool.not_eq_true, Bool.not_true, Bool.not_false, if_true, if_false, Bool.false_eq_true, ite_true, ite_false, reduceIte, reduceCtorEq, decide_eq_true_eq, decide_eq_false_iff_not]
      refine ⟨dd.1, dd.2, rfl, rfl, by omega, by omega, by omega, by omega, fun q h0 h1 h2 => ?_⟩
      have e := radius_one hr.1 (List.mem_of_getElem? hi) h0 h1 h2
      subst e
      simp only [dSeq, dIfS, dTest, dOp, dName, dC, dRet, dLstF, dCons, dNil, dTup, dNext, dAsg, dLstM, gdName, dDrop, dM, dM0, dIf, dAnd, dOr, dNot, dAndV, dOrV, dNotV, dChain, dFz, dRetF, dRetN, dBreak, dCont, dCB, gdTup, gdCons, gdNil, gdSub, dNeg, dAug, dAugS, dFrz, dPar, dNoPart, dPart, dSlice, dYes, wipeD, i2, d1, d2, d3, startD, List.map_cons, List.map_nil, List.length_cons, List.length_nil, List.cons_append, List.nil_append, List.append_nil, List.getElem?_cons_zero, List.getElem?_cons_succ, List.getElem?_nil, List.replicate, List.set_cons_succ, List.set_cons_zero, Nat.reduceAdd, Nat.reduceSub, Nat.reduceLeDiff, run_eqi, run_nei, run_lt, run_le, run_gt, run_ge, run_addi, run_iaddi, true_and, and_true, Bool.not_eq_true, Bool.not_true, Bool.not_false, if_true, if_false, Bool.false_eq_true, ite_true, ite_false, reduceIte, reduceCtorEq, decide_eq_true_eq, decide_eq_false_iff_not]
      have hlen : (rimL q).length ≤ 441 := rim_len hr.1 (by omega)
      refine ⟨small_line (by rw [List.length_replicate]; omega), up_same, ?_, hlt, by rw [up_up]⟩
      show List.replicate i (D.bl true) ++ [D.bl (decide True)] = List.replicate (i + 1) (D.bl true)
      rw [List.replicate_succ']
      simp
    · rintro acc G'' ⟨rfl, hl, rfl⟩
      simp only [up_same, dl_up hp, DO.tree, dSeq, dIfS, dTest, dOp, dName, dC, dRet, dLstF, dCons, dNil, dTup, dNext, dAsg, dLstM, gdName, dDrop, dM, dM0, dIf, dAnd, dOr, dNot, dAndV, dOrV, dNotV, dChain, dFz, dRetF, dRetN, dBreak, dCont, dCB, gdTup, gdCons, gdNil, gdSub, dNeg, dAug, dAugS, dFrz, dPar, dNoPart, dPart, dSlice, dYes, wipeD, i2, d1, d2, d3, startD, List.map_cons, List.map_nil, List.length_cons, List.length_nil, List.cons_append, List.nil_append, List.append_nil, List.getElem?_cons_zero, List.getElem?_cons_succ, List.getElem?_nil, List.replicate, List.set_cons_succ, List.set_cons_zero, Nat.reduceAdd, Nat.reduceSub, Nat.reduceLeDiff, run_eqi, run_nei, run_lt, run_le, run_gt, run_ge, run_addi, run_iaddi, true_and, and_true, Bool.not_eq_true, Bool.not_true, Bool.not_false, if_true, if_false, Bool.false_eq_true, ite_true, ite_false, reduceIte, reduceCtorEq, decide_eq_true_eq, decide_eq_false_iff_not]
      refine ⟨List.replicate (rimL r).length true, by rw [List.length_map]; show some _ = _; rw [List.map_replicate], ?_⟩
      have hall : (List.replicate (rimL r).length true).all id = true := by simp
      simp only [hall, dSeq, dIfS, dTest, dOp, dName, dC, dRet, dLstF, dCons, dNil, dTup, dNext, dAsg, dLstM, gdName, dDrop, dM, dM0, dIf, dAnd, dOr, dNot, dAndV, dOrV, dNotV, dChain, dFz, dRetF, dRetN, dBreak, dCont, dCB, gdTup, gdCons, gdNil, gdSub, dNeg, dAug, dAugS, dFrz, dPar, dNoPart, dPart, dSlice, dYes, wipeD, i2, d1, d2, d3, startD, List.map_cons, List.map_nil, List.length_cons, List.length_nil, List.cons_append, List.nil_append, List.append_nil, List.getElem?_cons_zero, List.getElem?_cons_succ, List.getElem?_nil, List.replicate, List.set_cons_succ, List.set_cons_zero, Nat.reduceAdd, Nat.reduceSub, Nat.reduceLeDiff, run_eqi, run_nei, run_lt, run_le, run_gt, run_ge, run_addi, run_iaddi, true_and, and_true, Bool.not_eq_true, Bool.not_true, Bool.not_false, if_true, if_false, Bool.false_eq_true, ite_true, ite_false, reduceIte, reduceCtorEq, decide_eq_true_eq, decide_eq_false_iff_not]
      refine run_sorted (f := e2) (xs := rimL r) rfl clean_e2 al2 (st2 _) (fun a => Nat.le_trans (depth_e2 a) (by decide)) fun b hb => ?_
      simp only [up_same, dl_up hb, DO.tree, dSeq, dIfS, dTest, dOp, dName, dC, dRet, dLstF, dCons, dNil, dTup, dNext, dAsg, dLstM, gdName, dDrop, dM, dM0, dIf, dAnd, dOr, dNot, dAndV, dOrV, dNotV, dChain, dFz, dRetF, dRetN, dBreak, dCont, dCB, gdTup, gdCons, gdNil, gdSub, dNeg, dAug, dAugS, dFrz, dPar, dNoPart, dPart, dSlice, dYes, wipeD, i2, d1, d2, d3, startD, List.map_cons, List.map_nil, List.length_cons, List.length_nil, List.cons_append, List.nil_append, List.append_nil, List.getElem?_cons_zero, List.getElem?_cons_succ, List.getElem?_nil, List.replicate, List.set_cons_succ, List.set_cons_zero, Nat.reduceAdd, Nat.reduceSub, Nat.reduceLeDiff, run_eqi, run_nei, run_lt, run_le, run_gt, run_ge, run_addi, run_iaddi, true_and, and_true, Bool.not_eq_true, Bool.not_true, Bool.not_false, if_true, if_false, Bool.false_eq_true, ite_true, ite_false, reduceIte, reduceCtorEq, decide_eq_true_eq, decide_eq_false_iff_not]
      rw [srt_rim hr.1 hr.2]
      refine run_ne (clean_eL clean_e2 _) (clean_eL clean_e2 _) (Nat.le_trans (depth_eL depth_e2 _) (by decide)) (Nat.le_trans (depth_eL depth_e2 _) (by decide)) false (by constructor; exact (nomatch ·); intro h; exact (h rfl).elim) ?_
      simp only [dSeq, dIfS, dTest, dOp, dName, dC, dRet, dLstF, dCons, dNil, dTup, dNext, dAsg, dLstM, gdName, dDrop, dM, dM0, dIf, dAnd, dOr, dNot, dAndV, dOrV, dNotV, dChain, dFz, dRetF, dRetN, dBreak, dCont, dCB, gdTup, gdCons, gdNil, gdSub, dNeg, dAug, dAugS, dFrz, dPar, dNoPart, dPart, dSlice, dYes, wipeD, i2, d1, d2, d3, startD, List.map_cons, List.map_nil, List.length_cons, List.length_nil, List.cons_append, List.nil_append, List.append_nil, List.getElem?_cons_zero, List.getElem?_cons_succ, List.getElem?_nil, List.replicate, List.set_cons_succ, List.set_cons_zero, Nat.reduceAdd, Nat.reduceSub, Nat.reduceLeDiff, run_eqi, run_nei, run_lt, run_le, run_gt, run_ge, run_addi, run_iaddi, true_and, and_true, Bool.not_eq_true, Bool.not_true, Bool.not_false, if_true, if_false, Bool.false_eq_true, ite_true, ite_false, reduceIte, reduceCtorEq, decide_eq_true_eq, decide_eq_false_iff_not]
      exact ⟨_, (by repeat (first | exact Le.nil | apply Le.keep | apply Le.drop)), rfl, rfl⟩
  · rintro η G' ⟨rfl, rfl⟩
    exact k
theorem u2 {F : DEnds} {sc : D} {a : Addr} {G : DHp} (k : F.nx (stL sc a none none none none none none none none none none none) G) : U_law_2 F (stL sc a none none none none none none none none none none none) G := by
  refine ⟨⟨by decide, by decide, by decide, by decide⟩, fun i η G' => η = stL sc a none none none none none none none none none none none ∧ G' = G, ⟨rfl, rfl⟩, fun _ _ _ _ => trivial, ?_, ?_⟩
  · rintro i d η G' hd ⟨rfl, rfl⟩
    obtain ⟨x, hi, rfl⟩ := get_map hd
    have hx := List.mem_of_getElem? hi
    have hx' := mem_range.mp hx
    refine ⟨⟨by decide, by decide, by decide, by decide⟩, fun i η G'' => η = (stL sc a none none none none none none none none none none none).set 4 (some (.int x)) ∧ G'' = G', ⟨rfl, rfl⟩, fun _ _ _ _ => trivial, ?_, ?_⟩
    · rintro i d η G'' hd ⟨rfl, rfl⟩
      obtain ⟨y, hi, rfl⟩ := get_map hd
      have hy := List.mem_of_getElem? hi
      have hy' := mem_range.mp hy
      simp only [stL, dSeq, dIfS, dTest, dOp, dName, dC, dRet, dLstF, dCons, dNil, dTup, dNext, dAsg, dLstM, gdName, dDrop, dM, dM0, dIf, dAnd, dOr, dNot, dAndV, dOrV, dNotV, dChain, dFz, dRetF, dRetN, dBreak, dCont, dCB, gdTup, gdCons, gdNil, gdSub, dNeg, dAug, dAugS, dFrz, dPar, dNoPart, dPart, dSlice, dYes, wipeD, i2, d1, d2, d3, startD, List.map_cons, List.map_nil, List.length_cons, List.length_nil, List.cons_append, List.nil_append, List.append_nil, List.getElem?_cons_zero, List.getElem?_cons_succ, List.getElem?_nil, List.replicate, List.set_cons_succ, List.set_cons_zero, Nat.reduceAdd, Nat.reduceSub, Nat.reduceLeDiff, run_eqi, run_nei, run_lt, run_le, run_gt, run_ge, run_addi, run_iaddi, true_and, and_true, Bool.not_eq_true, Bool.not_true, Bool.not_false, if_true, if_false, Bool.false_eq_true, ite_true, ite_false, reduceIte, reduceCtorEq, decide_eq_true_eq, decide_eq_false_iff_not]
      refine ⟨x, y, rfl, rfl, by omega, by omega, by omega, by omega, fun r h0 h1 h2 => ?_⟩
      have hr6 : r < 7 := by
        rcases h2 with h2 | h2
        · omega
        · by_cases c : r < 7
          · exact c
          · have := tri_mono (show (0 : Int) ≤ 6 by decide) (show 6 ≤ r - 1 by omega)
            have a1 : x * x ≤ 16 := by
              have e : 0 ≤ (4 - x) * (4 + x) := Int.mul_nonneg (by omega) (by omega)
              have e2 : (4 - x) * (4 + x) = 16 - x * x := by rw [Int.sub_mul, Int.mul_add, Int.mul_add]; have := Int.mul_comm x 4; omega
              omega
            have a2 : y * y ≤ 16 := by
              have e : 0 ≤ (4 - y) * (4 + y) := Int.mul_nonneg (by omega) (by omega)
              have e2 : (4 - y) * (4 + y) = 16 - y * y := by rw [Int.sub_mul, Int.mul_add, Int.mul_add]; have := Int.mul_comm y 4; omega
              omega
            omega
      have hm := rim_near x hx y hy r (mem_range.mpr ⟨h0, hr6⟩) h1 h2
      simp only [dSeq, dIfS, dTest, dOp, dName, dC, dRet, dLstF, dCons, dNil, dTup, dNext, dAsg, dLstM, gdName, dDrop, dM, dM0, dIf, dAnd, dOr, dNot, dAndV, dOrV, dNotV, dChain, dFz, dRetF, dRetN, dBreak, dCont, dCB, gdTup, gdCons, gdNil, gdSub, dNeg, dAug, dAugS, dFrz, dPar, dNoPart, dPart, dSlice, dYes, wipeD, i2, d1, d2, d3, startD, List.map_cons, List.map_nil, List.length_cons, List.length_nil, List.cons_append, List.nil_append, List.append_nil, List.getElem?_cons_zero, List.getElem?_cons_succ, List.getElem?_nil, List.replicate, List.set_cons_succ, List.set_cons_zero, Nat.reduceAdd, Nat.reduceSub, Nat.reduceLeDiff, run_eqi, run_nei, run_lt, run_le, run_gt, run_ge, run_addi, run_iaddi, true_and, and_true, Bool.not_eq_true, Bool.not_true, Bool.not_false, if_true, if_false, Bool.false_eq_true, ite_true, ite_false, reduceIte, reduceCtorEq, decide_eq_true_eq, decide_eq_false_iff_not]
      refine ⟨r, rfl, h0, by omega, ?_⟩
      refine run_in (ds := (rimL r).map e2) (.inl rfl) (show clean (e2 (x, y)) = true from rfl) (cleans_map clean_e2 _) (Nat.le_trans (depth_e2 (x, y)) (by decide)) true (by constructor; intro _; exact List.mem_map.mpr ⟨(x, y), hm, rfl⟩; intro _; rfl) ?_
      simp only [dSeq, dIfS, dTest, dOp, dName, dC, dRet, dLstF, dCons, dNil, dTup, dNext, dAsg, dLstM, gdName, dDrop, dM, dM0, dIf, dAnd, dOr, dNot, dAndV, dOrV, dNotV, dChain, dFz, dRetF, dRetN, dBreak, dCont, dCB, gdTup, gdCons, gdNil, gdSub, dNeg, dAug, dAugS, dFrz, dPar, dNoPart, dPart, dSlice, dYes, wipeD, i2, d1, d2, d3, startD, List.map_cons, List.map_nil, List.length_cons, List.length_nil, List.cons_append, List.nil_append, List.append_nil, List.getElem?_cons_zero, List.getElem?_cons_succ, List.getElem?_nil, List.replicate, List.set_cons_succ, List.set_cons_zero, Nat.reduceAdd, Nat.reduceSub, Nat.reduceLeDiff, run_eqi, run_nei, run_lt, run_le, run_gt, run_ge, run_addi, run_iaddi, true_and, and_true, Bool.not_eq_true, Bool.not_true, Bool.not_false, if_true, if_false, Bool.false_eq_true, ite_true, ite_false, reduceIte, reduceCtorEq, decide_eq_true_eq, decide_eq_false_iff_not]
      exact ⟨_, (by repeat (first | exact Le.nil | apply Le.keep | apply Le.drop)), rfl, rfl⟩
    · rintro η G'' ⟨rfl, rfl⟩
      exact ⟨_, (by repeat (first | exact Le.nil | apply Le.keep | apply Le.drop)), rfl, rfl⟩
  · rintro η G' ⟨rfl, rfl⟩
    exact k
end M
namespace M
open PySem PySem.Spec PyProof.Rows L2 DL

/-! ### the law, statement by statement: draws -/
/-- what else is tracked, then the draws -/
abbrev Gw (G : DHp) (a : Addr) (ns : List Int) (c : Int) : DHp := up G a (drw ns c)
theorem gw_new {G : DHp} {a p : Addr} {ns : List Int} {c : Int} {o : DO} (h : Gw G a ns c p = none) : up (Gw G a ns c) p o = Gw (up G p o) a ns c ∧ a ≠ p := by
  have hn : a ≠ p := fun e => by
    subst e
    rw [show Gw G a ns c a = some (drw ns c) from up_same] at h
    cases h
  exact ⟨(up_comm hn), hn⟩
theorem gw_none {G : DHp} {a p : Addr} {ns : List Int} {c : Int} (hn : a ≠ p) (h : Gw G a ns c p = none) : G p = none := by
  rw [show Gw G a ns c p = G p from up_ne (Ne.symm hn)] at h
  exact h
theorem gw_dl {G : DHp} {a p : Addr} {ns : List Int} {c : Int} {o : DO} (hn : a ≠ p) (h : G p = none) : dl (Gw (up G p o) a ns c) p = Gw G a ns c := by
  show dl (up (up G p o) a _) p = _
  rw [dl_up_ne hn, dl_up h]
theorem gw_up {G : DHp} {a p : Addr} {ns : List Int} {c : Int} {o o' : DO} (hn : a ≠ p) : up (Gw (up G p o) a ns c) p o' = Gw (up G p o') a ns c := by
  show up (up (up G p o) a _) p o' = _
  rw [up_comm (a := a) (b := p) hn, up_up]
theorem gw_at {G : DHp} {a p : Addr} {ns : List Int} {c : Int} {o : DO} (hn : a ≠ p) : Gw (up G p o) a ns c p = some o := by
  show up (up G p o) a _ p = _
  rw [up_ne (Ne.symm hn), up_same]
theorem gw_take {G : DHp} {a : Addr} {ns : List Int} {c n : Int} {Q : DVK} (hn : 0 < n) (hl : ns.length ≤ 63) (q : ∀ r : Int, 0 ≤ r → r < n → Q (.int r) (Gw G a ns (c + 1))) : sp__law_take [.ref a, .int n] (Gw G a ns c) Q :=
  run_take hn hl up_same fun r h0 h1 => by rw [up_up]; exact q r h0 h1
theorem u3 {F : DEnds} {sc : D} {a : Addr} {G : DHp} (k : ∀ p, G p = none → F.nx (stL sc a (some (.ref p)) none none none none none none none none none none) (up G p (.lst []))) : U_law_3 F (stL sc a none none none none none none none none none none none) G := by
  simp only [U_law_3, stL, dSeq, dIfS, dTest, dOp, dName, dC, dRet, dLstF, dCons, dNil, dTup, dNext, dAsg, dLstM, gdName, dDrop, dM, dM0, dIf, dAnd, dOr, dNot, dAndV, dOrV, dNotV, dChain, dFz, dRetF, dRetN, dBreak, dCont, dCB, gdTup, gdCons, gdNil, gdSub, dNeg, dAug, dAugS, dFrz, dPar, dNoPart, dPart, dSlice, dYes, wipeD, i2, d1, d2, d3, startD, List.map_cons, List.map_nil, List.length_cons, List.length_nil, List.cons_append, List.nil_append, List.append_nil, List.getElem?_cons_zero, List.getElem?_cons_succ, List.getElem?_nil, List.replicate, List.set_cons_succ, List.set_cons_zero, Nat.reduceAdd, Nat.reduceSub, Nat.reduceLeDiff, run_eqi, run_nei, run_lt, run_le, run_gt, run_ge, run_addi, run_iaddi, true_and, and_true, Bool.not_eq_true, Bool.not_true, Bool.not_false, if_true, if_false, Bool.false_eq_true, ite_true, ite_false, reduceIte, reduceCtorEq, decide_eq_true_eq, decide_eq_false_iff_not]
  exact k
def okP (o : Int × Int × Int) : Prop := (0 ≤ o.1 ∧ o.1 < 9) ∧ (0 ≤ o.2.1 ∧ o.2.1 < 9) ∧ (1 ≤ o.2.2 ∧ o.2.2 ≤ 3)
theorem u4 {F : DEnds} {sc : D} {a : Addr} {ns : List Int} {c : Int} {G : DHp} {cs : Option D} (hl : ns.length ≤ 63) (k : ∀ (p : Addr) (c' : Int) (ps : List (Int × Int × Int)), (∀ o ∈ ps, okP o) → ps.length ≤ 3 → a ≠ p → G p = none →
    F.nx (stL sc a cs (some (.ref p)) none none none none none none none none none) (Gw (up G p (.lst (ps.map e3))) a ns c')) : U_law_4 F (stL sc a cs none none none none none none none none none none) (Gw G a ns c) := by
  simp only [U_law_4, stL, dLc, diRange1, dSeq, dIfS, dTest, dOp, dName, dC, dRet, dLstF, dCons, dNil, dTup, dNext, dAsg, dLstM, gdName, dDrop, dM, dM0, dIf, dAnd, dOr, dNot, dAndV, dOrV, dNotV, dChain, dFz, dRetF, dRetN, dBreak, dCont, dCB, gdTup, gdCons, gdNil, gdSub, dNeg, dAug, dAugS, dFrz, dPar, dNoPart, dPart, dSlice, dYes, wipeD, i2, d1, d2, d3, startD, List.map_cons, List.map_nil, List.length_cons, List.length_nil, List.cons_append, List.nil_append, List.append_nil, List.getElem?_cons_zero, List.getElem?_cons_succ, List.getElem?_nil, List.replicate, List.set_cons_succ, List.set_cons_zero, Nat.reduceAdd, Nat.reduceSub, Nat.reduceLeDiff, run_eqi, run_nei, run_lt, run_le, run_gt, run_ge, run_addi, run_iaddi, true_and, and_true, Bool.not_eq_true, Bool.not_true, Bool.not_false, if_true, if_false, Bool.false_eq_true, ite_true, ite_false, reduceIte, reduceCtorEq, decide_eq_true_eq, decide_eq_false_iff_not]
  refine gw_take (by decide) hl fun r h0 h1 => ?_
  refine ⟨⟨by omega, by omega⟩, fun p hp => ?_⟩
  obtain ⟨e, hap⟩ := gw_new (o := .lst []) hp
  have hgp := gw_none hap hp
  refine ⟨fun i acc G' => ∃ (ps : List (Int × Int × Int)) (c' : Int), acc = ps.map e3 ∧ G' = Gw (up G p (.lst acc)) a ns c' ∧ (∀ o ∈ ps, okP o) ∧ ps.length = i ∧ i ≤ 3, ⟨[], c + 1, rfl, e, (fun _ h => nomatch h), rfl, by decide⟩, ?_, ?_, ?_⟩
  · rintro i acc G' ⟨ps, c', rfl, rfl, _⟩
    exact ⟨trivial, gw_at hap⟩
  · rintro i d acc G' hd ⟨ps, c', rfl, rfl, ok, hlen, h3⟩
    obtain ⟨x, hi, rfl⟩ := get_map hd
    have hi3 : i < 3 := by
      have := (List.getElem?_eq_some_iff.mp hi).1
      rw [len_range] at this
      omega
    simp only [dSeq, dIfS, dTest, dOp, dName, dC, dRet, dLstF, dCons, dNil, dTup, dNext, dAsg, dLstM, gdName, dDrop, dM, dM0, dIf, dAnd, dOr, dNot, dAndV, dOrV, dNotV, dChain, dFz, dRetF, dRetN, dBreak, dCont, dCB, gdTup, gdCons, gdNil, gdSub, dNeg, dAug, dAugS, dFrz, dPar, dNoPart, dPart, dSlice, dYes, wipeD, i2, d1, d2, d3, startD, List.map_cons, List.map_nil, List.length_cons, List.length_nil, List.cons_append, List.nil_append, List.append_nil, List.getElem?_cons_zero, List.getElem?_cons_succ, List.getElem?_nil, List.replicate, List.set_cons_succ, List.set_cons_zero, Nat.reduceAdd, Nat.reduceSub, Nat.reduceLeDiff, run_eqi, run_nei, run_lt, run_le, run_gt, run_ge, run_addi, run_iaddi, true_and, and_true, Bool.not_eq_true, Bool.not_true, Bool.not_false, if_true, if_false, Bool.false_eq_true, ite_true, ite_false, reduceIte, reduceCtorEq, decide_eq_true_eq, decide_eq_false_iff_not]
    refine gw_take (by decide) hl fun x1 hx0 hx1 => ?_
    refine gw_take (by decide) hl fun y1 hy0 hy1 => ?_
    refine gw_take (by decide) hl fun r1 hr0 hr1 => ?_
    simp only [dSeq, dIfS, dTest, dOp, dName, dC, dRet, dLstF, dCons, dNil, dTup, dNext, dAsg, dLstM, gdName, dDrop, dM, dM0, dIf, dAnd, dOr, dNot, dAndV, dOrV, dNotV, dChain, dFz, dRetF, dRetN, dBreak, dCont, dCB, gdTup, gdCons, gdNil, gdSub, dNeg, dAug, dAugS, dFrz, dPar, dNoPart, dPart, dSlice, dYes, wipeD, i2, d1, d2, d3, startD, List.map_cons, List.map_nil, List.length_cons, List.length_nil, List.cons_append, List.nil_append, List.append_nil, List.getElem?_cons_zero, List.getElem?_cons_succ, List.getElem?_nil, List.replicate, List.set_cons_succ, List.set_cons_zero, Nat.reduceAdd, Nat.reduceSub, Nat.reduceLeDiff, run_eqi, run_nei, run_lt, run_le, run_gt, run_ge, run_addi, run_iaddi, true_and, and_true, Bool.not_eq_true, Bool.not_true, Bool.not_false, if_true, if_false, Bool.false_eq_true, ite_true, ite_false, reduceIte, reduceCtorEq, decide_eq_true_eq, decide_eq_false_iff_not]
    refine ⟨small_line (by rw [List.length_map]; omega), gw_at hap, ps ++ [(x1, y1, 1 + r1)], c' + 1 + 1 + 1, by rw [List.map_append]; rfl, gw_up hap, fun o ho => ?_, by rw [List.length_append, List.length_singleton]; omega, by omega⟩
    rcases List.mem_append.mp ho with ho | ho
    · exact ok o ho
    · rw [List.mem_singleton] at ho
      subst ho
      exact ⟨⟨hx0, hx1⟩, ⟨hy0, hy1⟩, by show 1 ≤ 1 + r1 ∧ 1 + r1 ≤ 3; omega⟩
  · rintro acc G' ⟨ps, c', rfl, rfl, ok, hlen, h3⟩
    refine k p c' ps ok ?_ hap hgp
    rw [hlen]; exact h3
end M
namespace M
open PySem PySem.Spec PyProof.Rows L2 DL

theorem run_add_lst {x y : D} {xs ys : List D} {G : DHp} {Q : DVK} (h1 : der x G = .nd .lst xs) (h2 : der y G = .nd .lst ys) (hl : xs.length + ys.length ≤ sizeLine) (q : Q (.nd .lst (xs ++ ys)) G) : dAdd x y G Q := by
  unfold dAdd
  rw [h1, h2]
  exact ⟨hl, q⟩
theorem run_iext {p : Addr} {y : D} {xs ys : List D} {G : DHp} {Q : DVK} (h1 : G p = some (.lst xs)) (h2 : der y G = .nd .lst ys) (hl : xs.length + ys.length ≤ sizeLine) (q : Q (.ref p) (up G p (.lst (xs ++ ys)))) : dIAdd (.ref p) y G Q := by
  show onL (.ref p) G fun a ds => (match der y G with | .nd .lst es => ds.length + es.length ≤ sizeLine ∧ Q (.ref a) (up G a (.lst (ds ++ es))) | _ => False)
  refine onL_of h1 ?_
  rw [h2]
  exact ⟨hl, q⟩
def okC (c : Int × Int) : Prop := -3 ≤ c.1 ∧ c.1 ≤ 11 ∧ -3 ≤ c.2 ∧ c.2 ≤ 11
theorem le_line {n : Nat} (h : n ≤ 1000000) : n ≤ sizeLine := Nat.le_of_lt (small_line h)
theorem len_sub {α : Type} [DecidableEq α] : ∀ {ys xs : List α}, ys.Nodup → (∀ y ∈ ys, y ∈ xs) → ys.length ≤ xs.length
  | [], _, _, _ => Nat.zero_le _
  | y :: ys, xs, hn, h => by
    rw [List.nodup_cons] at hn
    have hy := h y (by simp)
    have := len_sub (ys := ys) (xs := xs.erase y) hn.2 fun z hz => (List.mem_erase_of_ne (show z ≠ y from fun e => hn.1 (e ▸ hz))).mpr (h z (by simp [hz]))
    rw [List.length_erase_of_mem hy] at this
    have := List.length_pos_of_mem hy
    rw [List.length_cons]
    omega
theorem u5 {F : DEnds} {sc : D} {a p1 : Addr} {ns : List Int} {c : Int} {G : DHp} {ps : List (Int × Int × Int)} (hl : ns.length ≤ 63) (hok : ∀ o ∈ ps, okP o) (h3 : ps.length ≤ 3) (hap : a ≠ p1) (k : ∀ (cs : List (Int × Int)) (c' : Int), (∀ o ∈ cs, okC o) → cs.length ≤ 147 →
    F.nx (stL sc a (some (.ref p1)) (some (eL e3 ps)) none none none none none none none none none) (Gw (up G p1 (.lst (cs.map e2))) a ns c')) : U_law_5 F (stL sc a (some (.ref p1)) (some (eL e3 ps)) none none none none none none none none none) (Gw (up G p1 (.lst [])) a ns c) := by
  refine ⟨fun i η G' => η = stL sc a (some (.ref p1)) (some (eL e3 ps)) none none none none none none none none none ∧ ∃ (cs : List (Int × Int)) (c' : Int), G' = Gw (up G p1 (.lst (cs.map e2))) a ns c' ∧ (∀ o ∈ cs, okC o) ∧ cs.length ≤ i * 49 ∧ i ≤ 3, ⟨rfl, [], c, rfl, (fun _ h => nomatch h), Nat.zero_le _, Nat.zero_le _⟩, fun _ _ _ _ => trivial, ?_, ?_⟩
  · rintro i d η G' hd ⟨rfl, cs, c', rfl, okc, hlen, hi3⟩
    obtain ⟨o, hi, rfl⟩ := get_map hd
    have oo := hok o (List.mem_of_getElem? hi)
    have hlt : i < 3 := Nat.lt_of_lt_of_le (List.getElem?_eq_some_iff.mp hi).1 h3
    obtain ⟨ox, oy, or⟩ := oo
    simp only [stL, e3, dLc, diSeq, dSeq, dIfS, dTest, dOp, dName, dC, dRet, dLstF, dCons, dNil, dTup, dNext, dAsg, dLstM, gdName, dDrop, dM, dM0, dIf, dAnd, dOr, dNot, dAndV, dOrV, dNotV, dChain, dFz, dRetF, dRetN, dBreak, dCont, dCB, gdTup, gdCons, gdNil, gdSub, dNeg, dAug, dAugS, dFrz, dPar, dNoPart, dPart, dSlice, dYes, wipeD, i2, d1, d2, d3, startD, List.map_cons, List.map_nil, List.length_cons, List.length_nil, List.cons_append, List.nil_append, List.append_nil, List.getElem?_cons_zero, List.getElem?_cons_succ, List.getElem?_nil, List.replicate, List.set_cons_succ, List.set_cons_zero, Nat.reduceAdd, Nat.reduceSub, Nat.reduceLeDiff, run_eqi, run_nei, run_lt, run_le, run_gt, run_ge, run_addi, run_iaddi, true_and, and_true, Bool.not_eq_true, Bool.not_true, Bool.not_false, if_true, if_false, Bool.false_eq_true, ite_true, ite_false, reduceIte, reduceCtorEq, decide_eq_true_eq, decide_eq_false_iff_not]
    refine ⟨o.2.2, rfl, by omega, by omega, ?_⟩
    intro p2 hp
    obtain ⟨e, hap2⟩ := gw_new (o := .lst []) hp
    have hgp := gw_none hap2 hp
    refine ⟨fun j acc G' => ∃ (zs : List (Int × Int)) (c' : Int), acc = zs.map e2 ∧ G' = Gw (up (up G p1 (.lst (cs.map e2))) p2 (.lst acc)) a ns c' ∧ (∀ o ∈ zs, okC o) ∧ zs.length ≤ j ∧ j ≤ 49, ⟨[], c', rfl, e, (fun _ h => nomatch h), Nat.le_refl _, by decide⟩, ?_, ?_, ?_⟩
    · rintro j acc G' ⟨zs, c'', rfl, rfl, _⟩
      exact ⟨trivial, gw_at hap2⟩
    · rintro j d acc G' hd ⟨zs, c'', rfl, rfl, okz, hz, hj49⟩
      obtain ⟨dd, hj, rfl⟩ := get_map hd
      have hdd := rim_abs (by omega) (List.mem_of_getElem? hj)
      have hjl : j < 49 := Nat.lt_of_lt_of_le (List.getElem?_eq_some_iff.mp hj).1 (rim_facts _ (r123 or)).2.1
      simp only [e2, dSeq, dIfS, dTest, dOp, dName, dC, dRet, dLstF, dCons, dNil, dTup, dNext, dAsg, dLstM, gdName, dDrop, dM, dM0, dIf, dAnd, dOr, dNot, dAndV, dOrV, dNotV, dChain, dFz, dRetF, dRetN, dBreak, dCont, dCB, gdTup, gdCons, gdNil, gdSub, dNeg, dAug, dAugS, dFrz, dPar, dNoPart, dPart, dSlice, dYes, wipeD, i2, d1, d2, d3, startD, List.map_cons, List.map_nil, List.length_cons, List.length_nil, List.cons_append, List.nil_append, List.append_nil, List.getElem?_cons_zero, List.getElem?_cons_succ, List.getElem?_nil, List.replicate, List.set_cons_succ, List.set_cons_zero, Nat.reduceAdd, Nat.reduceSub, Nat.reduceLeDiff, run_eqi, run_nei, run_lt, run_le, run_gt, run_ge, run_addi, run_iaddi, true_and, and_true, Bool.not_eq_true, Bool.not_true, Bool.not_false, if_true, if_false, Bool.false_eq_true, ite_true, ite_false, reduceIte, reduceCtorEq, decide_eq_true_eq, decide_eq_false_iff_not]
      refine gw_take (by decide) hl fun r h0 h1 => ?_
      simp only [dSeq, dIfS, dTest, dOp, dName, dC, dRet, dLstF, dCons, dNil, dTup, dNext, dAsg, dLstM, gdName, dDrop, dM, dM0, dIf, dAnd, dOr, dNot, dAndV, dOrV, dNotV, dChain, dFz, dRetF, dRetN, dBreak, dCont, dCB, gdTup, gdCons, gdNil, gdSub, dNeg, dAug, dAugS, dFrz, dPar, dNoPart, dPart, dSlice, dYes, wipeD, i2, d1, d2, d3, startD, List.map_cons, List.map_nil, List.length_cons, List.length_nil, List.cons_append, List.nil_append, List.append_nil, List.getElem?_cons_zero, List.getElem?_cons_succ, List.getElem?_nil, List.replicate, List.set_cons_succ, List.set_cons_zero, Nat.reduceAdd, Nat.reduceSub, Nat.reduceLeDiff, run_eqi, run_nei, run_lt, run_le, run_gt, run_ge, run_addi, run_iaddi, true_and, and_true, Bool.not_eq_true, Bool.not_true, Bool.not_false, if_true, if_false, Bool.false_eq_true, ite_true, ite_false, reduceIte, reduceCtorEq, decide_eq_true_eq, decide_eq_false_iff_not]
      by_cases cc : 0 < r
      · rw [if_pos cc]
        refine ⟨small_line (by rw [List.length_map]; omega), gw_at hap2, zs ++ [(o.1 + dd.1, o.2.1 + dd.2)], c'' + 1, by rw [List.map_append]; rfl, gw_up hap2, fun q hq => ?_, by rw [List.length_append, List.length_singleton]; omega, by omega⟩
        rcases List.mem_append.mp hq with hq | hq
        · exact okz q hq
        · rw [List.mem_singleton] at hq
          subst hq
          unfold okC
          simp only
          omega
      · rw [if_neg cc]
        exact ⟨zs, c'' + 1, rfl, rfl, okz, by omega, by omega⟩
    · rintro acc G' ⟨zs, c'', rfl, rfl, okz, hz, _⟩
      have h49 := (rim_facts _ (r123 or)).2.1
      rw [List.length_map] at hz
      simp only [gw_at hap2, gw_dl hap2 hgp, DO.tree, dSeq, dIfS, dTest, dOp, dName, dC, dRet, dLstF, dCons, dNil, dTup, dNext, dAsg, dLstM, gdName, dDrop, dM, dM0, dIf, dAnd, dOr, dNot, dAndV, dOrV, dNotV, dChain, dFz, dRetF, dRetN, dBreak, dCont, dCB, gdTup, gdCons, gdNil, gdSub, dNeg, dAug, dAugS, dFrz, dPar, dNoPart, dPart, dSlice, dYes, wipeD, i2, d1, d2, d3, startD, List.map_cons, List.map_nil, List.length_cons, List.length_nil, List.cons_append, List.nil_append, List.append_nil, List.getElem?_cons_zero, List.getElem?_cons_succ, List.getElem?_nil, List.replicate, List.set_cons_succ, List.set_cons_zero, Nat.reduceAdd, Nat.reduceSub, Nat.reduceLeDiff, run_eqi, run_nei, run_lt, run_le, run_gt, run_ge, run_addi, run_iaddi, true_and, and_true, Bool.not_eq_true, Bool.not_true, Bool.not_false, if_true, if_false, Bool.false_eq_true, ite_true, ite_false, reduceIte, reduceCtorEq, decide_eq_true_eq, decide_eq_false_iff_not]
      refine run_iext (xs := cs.map e2) (ys := zs.map e2) (gw_at hap) rfl (le_line (by rw [List.length_map, List.length_map]; omega)) ?_
      refine ⟨_, (by repeat (first | exact Le.nil | apply Le.keep | apply Le.drop)), rfl, cs ++ zs, c'', by rw [gw_up hap, List.map_append], fun q hq => ?_, by rw [List.length_append]; omega, by omega⟩
      rcases List.mem_append.mp hq with hq | hq
      · exact okc q hq
      · exact okz q hq
  · rintro η G' ⟨rfl, cs, c', rfl, okc, hlen, hi3⟩
    exact k cs c' okc (by omega)
theorem u6 {F : DEnds} {sc : D} {a p1 : Addr} {ns : List Int} {c : Int} {G : DHp} {pl : Option D} {cs : List (Int × Int)} (hl : ns.length ≤ 63) (okc : ∀ o ∈ cs, okC o) (hlen : cs.length ≤ 147) (hap : a ≠ p1) (k : ∀ (ys : List (Int × Int)) (c' : Int), (∀ o ∈ ys, okC o) → ys.Nodup → ys.length ≤ 151 →
    F.nx (stL sc a (some (eL e2 ys)) pl none none none none none none none none none) (Gw (up G p1 (.lst (cs.map e2))) a ns c')) : U_law_6 F (stL sc a (some (.ref p1)) pl none none none none none none none none none) (Gw (up G p1 (.lst (cs.map e2))) a ns c) := by
  simp only [U_law_6, stL, dLc, diRange1, dSeq, dIfS, dTest, dOp, dName, dC, dRet, dLstF, dCons, dNil, dTup, dNext, dAsg, dLstM, gdName, dDrop, dM, dM0, dIf, dAnd, dOr, dNot, dAndV, dOrV, dNotV, dChain, dFz, dRetF, dRetN, dBreak, dCont, dCB, gdTup, gdCons, gdNil, gdSub, dNeg, dAug, dAugS, dFrz, dPar, dNoPart, dPart, dSlice, dYes, wipeD, i2, d1, d2, d3, startD, List.map_cons, List.map_nil, List.length_cons, List.length_nil, List.cons_append, List.nil_append, List.append_nil, List.getElem?_cons_zero, List.getElem?_cons_succ, List.getElem?_nil, List.replicate, List.set_cons_succ, List.set_cons_zero, Nat.reduceAdd, Nat.reduceSub, Nat.reduceLeDiff, run_eqi, run_nei, run_lt, run_le, run_gt, run_ge, run_addi, run_iaddi, true_and, and_true, Bool.not_eq_true, Bool.not_true, Bool.not_false, if_true, if_false, Bool.false_eq_true, ite_true, ite_false, reduceIte, reduceCtorEq, decide_eq_true_eq, decide_eq_false_iff_not]
  refine gw_take (by decide) hl fun r h0 h1 => ?_
  refine ⟨⟨by omega, by omega⟩, fun p2 hp => ?_⟩
  obtain ⟨e, hap2⟩ := gw_new (o := .lst []) hp
  have hgp := gw_none hap2 hp
  refine ⟨fun j acc G' => ∃ (zs : List (Int × Int)) (c' : Int), acc = zs.map e2 ∧ G' = Gw (up (up G p1 (.lst (cs.map e2))) p2 (.lst acc)) a ns c' ∧ (∀ o ∈ zs, okC o) ∧ zs.length ≤ j ∧ j ≤ 4, ⟨[], c + 1, rfl, e, (fun _ h => nomatch h), Nat.le_refl _, by decide⟩, ?_, ?_, ?_⟩
  · rintro j acc G' ⟨zs, c'', rfl, rfl, _⟩
    exact ⟨trivial, gw_at hap2⟩
  · rintro j d acc G' hd ⟨zs, c'', rfl, rfl, okz, hz, hj4⟩
    obtain ⟨x, hj, rfl⟩ := get_map hd
    have hjl : j < 4 := by
      have := (List.getElem?_eq_some_iff.mp hj).1
      rw [len_range] at this
      omega
    simp only [dSeq, dIfS, dTest, dOp, dName, dC, dRet, dLstF, dCons, dNil, dTup, dNext, dAsg, dLstM, gdName, dDrop, dM, dM0, dIf, dAnd, dOr, dNot, dAndV, dOrV, dNotV, dChain, dFz, dRetF, dRetN, dBreak, dCont, dCB, gdTup, gdCons, gdNil, gdSub, dNeg, dAug, dAugS, dFrz, dPar, dNoPart, dPart, dSlice, dYes, wipeD, i2, d1, d2, d3, startD, List.map_cons, List.map_nil, List.length_cons, List.length_nil, List.cons_append, List.nil_append, List.append_nil, List.getElem?_cons_zero, List.getElem?_cons_succ, List.getElem?_nil, List.replicate, List.set_cons_succ, List.set_cons_zero, Nat.reduceAdd, Nat.reduceSub, Nat.reduceLeDiff, run_eqi, run_nei, run_lt, run_le, run_gt, run_ge, run_addi, run_iaddi, true_and, and_true, Bool.not_eq_true, Bool.not_true, Bool.not_false, if_true, if_false, Bool.false_eq_true, ite_true, ite_false, reduceIte, reduceCtorEq, decide_eq_true_eq, decide_eq_false_iff_not]
    refine gw_take (by decide) hl fun x1 hx0 hx1 => ?_
    refine gw_take (by decide) hl fun y1 hy0 hy1 => ?_
    refine ⟨small_line (by rw [List.length_map]; omega), gw_at hap2, zs ++ [(x1, y1)], c'' + 1 + 1, by rw [List.map_append]; rfl, gw_up hap2, fun q hq => ?_, by rw [List.length_append, List.length_singleton]; omega, by omega⟩
    rcases List.mem_append.mp hq with hq | hq
    · exact okz q hq
    · rw [List.mem_singleton] at hq
      subst hq
      unfold okC
      simp only
      omega
  · rintro acc G' ⟨zs, c'', rfl, rfl, okz, hz, hz4⟩
    simp only [gw_at hap2, gw_dl hap2 hgp, DO.tree, dSeq, dIfS, dTest, dOp, dName, dC, dRet, dLstF, dCons, dNil, dTup, dNext, dAsg, dLstM, gdName, dDrop, dM, dM0, dIf, dAnd, dOr, dNot, dAndV, dOrV, dNotV, dChain, dFz, dRetF, dRetN, dBreak, dCont, dCB, gdTup, gdCons, gdNil, gdSub, dNeg, dAug, dAugS, dFrz, dPar, dNoPart, dPart, dSlice, dYes, wipeD, i2, d1, d2, d3, startD, List.map_cons, List.map_nil, List.length_cons, List.length_nil, List.cons_append, List.nil_append, List.append_nil, List.getElem?_cons_zero, List.getElem?_cons_succ, List.getElem?_nil, List.replicate, List.set_cons_succ, List.set_cons_zero, Nat.reduceAdd, Nat.reduceSub, Nat.reduceLeDiff, run_eqi, run_nei, run_lt, run_le, run_gt, run_ge, run_addi, run_iaddi, true_and, and_true, Bool.not_eq_true, Bool.not_true, Bool.not_false, if_true, if_false, Bool.false_eq_true, ite_true, ite_false, reduceIte, reduceCtorEq, decide_eq_true_eq, decide_eq_false_iff_not]
    have hz : zs.length ≤ 4 := Nat.le_trans hz hz4
    refine run_add_lst (xs := cs.map e2) (ys := zs.map e2) (der_lt (gw_at hap)) rfl (le_line (by rw [List.length_map, List.length_map]; omega)) ?_
    refine ⟨cs ++ zs, by unfold eL; rw [List.map_append], by rw [List.length_append]; omega, fun ys nd hm => ?_⟩
    refine k ys c'' (fun o ho => ?_) nd ?_
    · rcases List.mem_append.mp ((hm o).mp ho) with h | h
      · exact okc o h
      · exact okz o h
    · have : ys.length ≤ (cs ++ zs).length := len_sub nd fun o ho => (hm o).mp ho
      rw [List.length_append] at this
      omega
end M
namespace M
open PySem PySem.Spec PyProof.Rows L2 DL

def eB (c : Int × Int) : D := .nd .tup [e2 c, .bl true]
theorem prs_cells : ∀ cells : List (Int × Int), prsN (cells.map eB) = some (cells.map fun c => (k2 c, D.bl true))
  | [] => rfl
  | c :: cells => by
    have ih := prs_cells cells
    rw [List.map_cons, List.map_cons]
    unfold eB
    unfold prsN
    have hk : D.key (.nd .tup [.int c.1, .int c.2]) = some (k2 c) := key_e2 c
    show (match e2 c, D.key (e2 c), prsN (cells.map eB) with | .nd .tup _, some k, some ps => some ((k, D.bl true) :: ps) | _, _, _ => none) = _
    rw [ih]
    unfold e2
    rw [hk]
def putAll (cells : List (Int × Int)) (kvs : List ((Int × Int) × Bool)) : List ((Int × Int) × Bool) := cells.foldl (fun acc c => aput acc c true) kvs
theorem dputs_enc : ∀ (cells : List (Int × Int)) (kvs : List ((Int × Int) × Bool)), dputs (enc k2 .bl kvs) (cells.map fun c => (k2 c, D.bl true)) = enc k2 .bl (putAll cells kvs)
  | [], _ => rfl
  | c :: cells, kvs => by
    show dputs (dput (enc k2 .bl kvs) (k2 c) (D.bl true)) (cells.map fun c => (k2 c, D.bl true)) = _
    rw [dput_enc (f := D.bl) k2_inj kvs c true, dputs_enc cells]
    rfl
theorem putAll_mem : ∀ (cells : List (Int × Int)) (kvs : List ((Int × Int) × Bool)) (c : Int × Int), c ∈ (putAll cells kvs).map (·.1) ↔ c ∈ kvs.map (·.1) ∨ c ∈ cells
  | [], _, _ => by simp [putAll]
  | x :: cells, kvs, c => by
    have := putAll_mem cells (aput kvs x true) c
    show c ∈ (putAll cells (aput kvs x true)).map (·.1) ↔ _
    rw [this, aput_mem, List.mem_cons]
    constructor
    · rintro ((h | h) | h)
      · exact .inl h
      · exact .inr (.inl h)
      · exact .inr (.inr h)
    · rintro (h | h | h)
      · exact .inl (.inl h)
      · exact .inl (.inr h)
      · exact .inr h
theorem run_dictN {cells : List (Int × Int)} {G : DHp} {Q : DVK} (q : ∀ p, G p = none → Q (.ref p) (up G p (.dN (enc k2 .bl (putAll cells []))))) : dDictN [.nd .lst (cells.map eB)] G Q := by
  show (match prsN (cells.map eB) with | some ps => (∀ p ∈ ps, p.1.depth ≤ 8) ∧ ∀ a, G a = none → Q (.ref a) (up G a (.dN (dputs [] ps))) | none => False)
  rw [prs_cells]
  refine ⟨fun p hp => ?_, fun b hb => ?_⟩
  · obtain ⟨c, _, rfl⟩ := List.mem_map.mp hp
    exact dep_k2 c
  · have := dputs_enc cells []
    rw [show dputs [] (cells.map fun c => (k2 c, D.bl true)) = enc k2 .bl (putAll cells []) from this]
    exact q b hb
theorem u7 {F : DEnds} {sc : D} {a : Addr} {ns : List Int} {c : Int} {G : DHp} {pl : Option D} {cells : List (Int × Int)} (hl : ns.length ≤ 63) (hlen : cells.length ≤ 151)
    (k : ∀ (pd : Addr) (c' m : Int) (sh : List ((Int × Int) × Bool)), a ≠ pd → 0 ≤ m → m < 4 → (∀ c, c ∈ sh.map (·.1) ↔ c ∈ cells) → F.nx (stL sc a (some (eL e2 cells)) pl (some (eL .int [1, 2, 3])) (some (.int m)) (some (.ref pd)) (some (eD k2 .bl sh)) none none none none none) (Gw (up G pd (.lst [])) a ns c')) :
    U_law_7 F (stL sc a (some (eL e2 cells)) pl none none none none none none none none none) (Gw G a ns c) := by
  simp only [U_law_7, stL, dSeq, dIfS, dTest, dOp, dName, dC, dRet, dLstF, dCons, dNil, dTup, dNext, dAsg, dLstM, gdName, dDrop, dM, dM0, dIf, dAnd, dOr, dNot, dAndV, dOrV, dNotV, dChain, dFz, dRetF, dRetN, dBreak, dCont, dCB, gdTup, gdCons, gdNil, gdSub, dNeg, dAug, dAugS, dFrz, dPar, dNoPart, dPart, dSlice, dYes, wipeD, i2, d1, d2, d3, startD, List.map_cons, List.map_nil, List.length_cons, List.length_nil, List.cons_append, List.nil_append, List.append_nil, List.getElem?_cons_zero, List.getElem?_cons_succ, List.getElem?_nil, List.replicate, List.set_cons_succ, List.set_cons_zero, Nat.reduceAdd, Nat.reduceSub, Nat.reduceLeDiff, run_eqi, run_nei, run_lt, run_le, run_gt, run_ge, run_addi, run_iaddi, true_and, and_true, Bool.not_eq_true, Bool.not_true, Bool.not_false, if_true, if_false, Bool.false_eq_true, ite_true, ite_false, reduceIte, reduceCtorEq, decide_eq_true_eq, decide_eq_false_iff_not]
  refine gw_take (by decide) hl fun m h0 h1 => ?_
  intro pd hp
  obtain ⟨e, hap⟩ := gw_new (o := .lst []) hp
  have hgp := gw_none hap hp
  rw [e]
  simp only [dLc, diSeq, dSeq, dIfS, dTest, dOp, dName, dC, dRet, dLstF, dCons, dNil, dTup, dNext, dAsg, dLstM, gdName, dDrop, dM, dM0, dIf, dAnd, dOr, dNot, dAndV, dOrV, dNotV, dChain, dFz, dRetF, dRetN, dBreak, dCont, dCB, gdTup, gdCons, gdNil, gdSub, dNeg, dAug, dAugS, dFrz, dPar, dNoPart, dPart, dSlice, dYes, wipeD, i2, d1, d2, d3, startD, List.map_cons, List.map_nil, List.length_cons, List.length_nil, List.cons_append, List.nil_append, List.append_nil, List.getElem?_cons_zero, List.getElem?_cons_succ, List.getElem?_nil, List.replicate, List.set_cons_succ, List.set_cons_zero, Nat.reduceAdd, Nat.reduceSub, Nat.reduceLeDiff, run_eqi, run_nei, run_lt, run_le, run_gt, run_ge, run_addi, run_iaddi, true_and, and_true, Bool.not_eq_true, Bool.not_true, Bool.not_false, if_true, if_false, Bool.false_eq_true, ite_true, ite_false, reduceIte, reduceCtorEq, decide_eq_true_eq, decide_eq_false_iff_not]
  intro p2 hp2
  obtain ⟨e2', hap2⟩ := gw_new (o := .lst []) hp2
  have hgp2 := gw_none hap2 hp2
  refine ⟨fun i acc G' => acc = (cells.take i).map eB ∧ G' = Gw (up (up G pd (.lst [])) p2 (.lst acc)) a ns (c + 1), ⟨rfl, e2'⟩, ?_, ?_, ?_⟩
  · rintro i acc G' ⟨rfl, rfl⟩
    exact ⟨trivial, gw_at hap2⟩
  · rintro i d acc G' hd ⟨rfl, rfl⟩
    obtain ⟨x, hi, rfl⟩ := get_map hd
    simp only [dSeq, dIfS, dTest, dOp, dName, dC, dRet, dLstF, dCons, dNil, dTup, dNext, dAsg, dLstM, gdName, dDrop, dM, dM0, dIf, dAnd, dOr, dNot, dAndV, dOrV, dNotV, dChain, dFz, dRetF, dRetN, dBreak, dCont, dCB, gdTup, gdCons, gdNil, gdSub, dNeg, dAug, dAugS, dFrz, dPar, dNoPart, dPart, dSlice, dYes, wipeD, i2, d1, d2, d3, startD, List.map_cons, List.map_nil, List.length_cons, List.length_nil, List.cons_append, List.nil_append, List.append_nil, List.getElem?_cons_zero, List.getElem?_cons_succ, List.getElem?_nil, List.replicate, List.set_cons_succ, List.set_cons_zero, Nat.reduceAdd, Nat.reduceSub, Nat.reduceLeDiff, run_eqi, run_nei, run_lt, run_le, run_gt, run_ge, run_addi, run_iaddi, true_and, and_true, Bool.not_eq_true, Bool.not_true, Bool.not_false, if_true, if_false, Bool.false_eq_true, ite_true, ite_false, reduceIte, reduceCtorEq, decide_eq_true_eq, decide_eq_false_iff_not]
    refine ⟨small_line (by rw [List.length_map, List.length_take]; omega), gw_at hap2, ?_, gw_up hap2⟩
    rw [take_snoc hi, List.map_append]
    rfl
  · rintro acc G' ⟨rfl, rfl⟩
    rw [List.length_map, List.take_length]
    simp only [gw_at hap2, gw_dl hap2 hgp2, DO.tree, dSeq, dIfS, dTest, dOp, dName, dC, dRet, dLstF, dCons, dNil, dTup, dNext, dAsg, dLstM, gdName, dDrop, dM, dM0, dIf, dAnd, dOr, dNot, dAndV, dOrV, dNotV, dChain, dFz, dRetF, dRetN, dBreak, dCont, dCB, gdTup, gdCons, gdNil, gdSub, dNeg, dAug, dAugS, dFrz, dPar, dNoPart, dPart, dSlice, dYes, wipeD, i2, d1, d2, d3, startD, List.map_cons, List.map_nil, List.length_cons, List.length_nil, List.cons_append, List.nil_append, List.append_nil, List.getElem?_cons_zero, List.getElem?_cons_succ, List.getElem?_nil, List.replicate, List.set_cons_succ, List.set_cons_zero, Nat.reduceAdd, Nat.reduceSub, Nat.reduceLeDiff, run_eqi, run_nei, run_lt, run_le, run_gt, run_ge, run_addi, run_iaddi, true_and, and_true, Bool.not_eq_true, Bool.not_true, Bool.not_false, if_true, if_false, Bool.false_eq_true, ite_true, ite_false, reduceIte, reduceCtorEq, decide_eq_true_eq, decide_eq_false_iff_not]
    refine run_dictN fun p3 hp3 => ?_
    obtain ⟨e3', hap3⟩ := gw_new (o := .dN (enc k2 .bl (putAll cells []))) hp3
    have hgp3 := gw_none hap3 hp3
    rw [e3']
    simp only [gw_at hap3, gw_dl hap3 hgp3, tree_eD, dSeq, dIfS, dTest, dOp, dName, dC, dRet, dLstF, dCons, dNil, dTup, dNext, dAsg, dLstM, gdName, dDrop, dM, dM0, dIf, dAnd, dOr, dNot, dAndV, dOrV, dNotV, dChain, dFz, dRetF, dRetN, dBreak, dCont, dCB, gdTup, gdCons, gdNil, gdSub, dNeg, dAug, dAugS, dFrz, dPar, dNoPart, dPart, dSlice, dYes, wipeD, i2, d1, d2, d3, startD, List.map_cons, List.map_nil, List.length_cons, List.length_nil, List.cons_append, List.nil_append, List.append_nil, List.getElem?_cons_zero, List.getElem?_cons_succ, List.getElem?_nil, List.replicate, List.set_cons_succ, List.set_cons_zero, Nat.reduceAdd, Nat.reduceSub, Nat.reduceLeDiff, run_eqi, run_nei, run_lt, run_le, run_gt, run_ge, run_addi, run_iaddi, true_and, and_true, Bool.not_eq_true, Bool.not_true, Bool.not_false, if_true, if_false, Bool.false_eq_true, ite_true, ite_false, reduceIte, reduceCtorEq, decide_eq_true_eq, decide_eq_false_iff_not]
    exact k pd (c + 1) m (putAll cells []) hap h0 h1 fun c => by rw [putAll_mem]; simp
theorem u8 {F : DEnds} {sc : D} {a : Addr} {G : DHp} {pl m du sh : Option D} {cells : List (Int × Int)} (hlen : cells.length ≤ 151) (k : ∀ kvs : List ((Int × Int × Int) × Int), Cnt kvs (visits cells [1, 2, 3]) → F.nx (stL sc a (some (eL e2 cells)) pl (some (eL .int [1, 2, 3])) m du sh (some (eD k3 .int kvs)) none none none none) G) :
    U_law_8 F (stL sc a (some (eL e2 cells)) pl (some (eL .int [1, 2, 3])) m du sh none none none none none) G := by
  simp only [U_law_8, stL, dSeq, dIfS, dTest, dOp, dName, dC, dRet, dLstF, dCons, dNil, dTup, dNext, dAsg, dLstM, gdName, dDrop, dM, dM0, dIf, dAnd, dOr, dNot, dAndV, dOrV, dNotV, dChain, dFz, dRetF, dRetN, dBreak, dCont, dCB, gdTup, gdCons, gdNil, gdSub, dNeg, dAug, dAugS, dFrz, dPar, dNoPart, dPart, dSlice, dYes, wipeD, i2, d1, d2, d3, startD, List.map_cons, List.map_nil, List.length_cons, List.length_nil, List.cons_append, List.nil_append, List.append_nil, List.getElem?_cons_zero, List.getElem?_cons_succ, List.getElem?_nil, List.replicate, List.set_cons_succ, List.set_cons_zero, Nat.reduceAdd, Nat.reduceSub, Nat.reduceLeDiff, run_eqi, run_nei, run_lt, run_le, run_gt, run_ge, run_addi, run_iaddi, true_and, and_true, Bool.not_eq_true, Bool.not_true, Bool.not_false, if_true, if_false, Bool.false_eq_true, ite_true, ite_false, reduceIte, reduceCtorEq, decide_eq_true_eq, decide_eq_false_iff_not]
  exact ⟨cells, [1, 2, 3], rfl, rfl, by omega, by decide, fun r hr => by have := of123 hr; omega, k⟩
def D2 (cells : List (Int × Int)) (missing r x : Int) : List (Int × Int × Int) := ((rangeL (-6) 20).filter fun y => decide (((rimL r).length : Int) - missing ≤ brightN cells (x, y, r))).map fun y => (x, y, r)
def D1 (cells : List (Int × Int)) (missing r : Int) : List (Int × Int × Int) := (rangeL (-6) 20).flatMap (D2 cells missing r)
theorem dueL_eq (cells : List (Int × Int)) (missing : Int) : dueL cells missing = ([1, 2, 3] : List Int).flatMap (D1 cells missing) := rfl
theorem len20 : (rangeL (-6) 20).length = 26 := by rw [len_range]; rfl
theorem filter_len {α : Type} (p : α → Bool) (l : List α) (j : Nat) : ((l.take j).filter p).length ≤ l.length := Nat.le_trans (List.length_filter_le _ _) (by rw [List.length_take]; exact Nat.min_le_right _ _)
theorem D2_len (cells : List (Int × Int)) (missing r x : Int) : (D2 cells missing r x).length ≤ 26 := by
  unfold D2
  rw [List.length_map]
  exact Nat.le_trans (List.length_filter_le _ _) (Nat.le_of_eq len20)
theorem cnt_getD {α : Type} [DecidableEq α] {kvs : List (α × Int)} {L : List α} (h : Cnt kvs L) (a : α) : (aget kvs a).getD 0 = cnt L a := by
  rw [h.at_ a]
  unfold cnt
  by_cases z : L.count a = 0
  · rw [if_pos z, z]; rfl
  · rw [if_neg z]; rfl
theorem u9 {F : DEnds} {sc : D} {a pd : Addr} {ns : List Int} {c m : Int} {G : DHp} {pl : Option D} {cells : List (Int × Int)} {sh : List ((Int × Int) × Bool)} {kvs : List ((Int × Int × Int) × Int)} (hc : cells.Nodup) (hap : a ≠ pd) (hsh : ∀ c, c ∈ sh.map (·.1) ↔ c ∈ cells) (cn : Cnt kvs (visits cells [1, 2, 3]))
    (k : F.nx (stL sc a (some (eL e2 cells)) pl (some (eL .int [1, 2, 3])) (some (.int m)) (some (.ref pd)) (some (eD k2 .bl sh)) (some (eD k3 .int kvs)) none none none none) (Gw (up G pd (.lst ((dueL cells m).map e3))) a ns c)) :
    U_law_9 F (stL sc a (some (eL e2 cells)) pl (some (eL .int [1, 2, 3])) (some (.int m)) (some (.ref pd)) (some (eD k2 .bl sh)) (some (eD k3 .int kvs)) none none none none) (Gw (up G pd (.lst [])) a ns c) := by
  refine ⟨fun i η G' => η = stL sc a (some (eL e2 cells)) pl (some (eL .int [1, 2, 3])) (some (.int m)) (some (.ref pd)) (some (eD k2 .bl sh)) (some (eD k3 .int kvs)) none none none none ∧ G' = Gw (up G pd (.lst (((([1, 2, 3] : List Int).take i).flatMap (D1 cells m)).map e3))) a ns c, ⟨rfl, rfl⟩, fun _ _ _ _ => trivial, ?_, ?_⟩
  · rintro i d η G' hd ⟨rfl, rfl⟩
    obtain ⟨r, hi, rfl⟩ := get_map (f := D.int) (xs := [1, 2, 3]) hd
    have hr := of123 (List.mem_of_getElem? hi)
    have hi3 : i < 3 := (List.getElem?_eq_some_iff.mp hi).1
    generalize hA : (([1, 2, 3] : List Int).take i).flatMap (D1 cells m) = A
    have hAl : A.length ≤ 3 * 676 := by
      rw [← hA]
      refine Nat.le_trans (len_flatMap (B := 676) fun r _ => ?_) (Nat.mul_le_mul_right 676 (by rw [List.length_take]; exact Nat.le_of_lt (Nat.lt_of_le_of_lt (Nat.min_le_left _ _) hi3)))
      exact Nat.le_trans (len_flatMap (B := 26) fun x _ => D2_len cells m r x) (by rw [len20]; decide)
    simp only [stL, dSeq, dIfS, dTest, dOp, dName, dC, dRet, dLstF, dCons, dNil, dTup, dNext, dAsg, dLstM, gdName, dDrop, dM, dM0, dIf, dAnd, dOr, dNot, dAndV, dOrV, dNotV, dChain, dFz, dRetF, dRetN, dBreak, dCont, dCB, gdTup, gdCons, gdNil, gdSub, dNeg, dAug, dAugS, dFrz, dPar, dNoPart, dPart, dSlice, dYes, wipeD, i2, d1, d2, d3, startD, List.map_cons, List.map_nil, List.length_cons, List.length_nil, List.cons_append, List.nil_append, List.append_nil, List.getElem?_cons_zero, List.getElem?_cons_succ, List.getElem?_nil, List.replicate, List.set_cons_succ, List.set_cons_zero, Nat.reduceAdd, Nat.reduceSub, Nat.reduceLeDiff, run_eqi, run_nei, run_lt, run_le, run_gt, run_ge, run_addi, run_iaddi, true_and, and_true, Bool.not_eq_true, Bool.not_true, Bool.not_false, if_true, if_false, Bool.false_eq_true, ite_true, ite_false, reduceIte, reduceCtorEq, decide_eq_true_eq, decide_eq_false_iff_not]
    refine ⟨r, rfl, by omega, by omega, ?_⟩
    simp only [dSeq, dIfS, dTest, dOp, dName, dC, dRet, dLstF, dCons, dNil, dTup, dNext, dAsg, dLstM, gdName, dDrop, dM, dM0, dIf, dAnd, dOr, dNot, dAndV, dOrV, dNotV, dChain, dFz, dRetF, dRetN, dBreak, dCont, dCB, gdTup, gdCons, gdNil, gdSub, dNeg, dAug, dAugS, dFrz, dPar, dNoPart, dPart, dSlice, dYes, wipeD, i2, d1, d2, d3, startD, List.map_cons, List.map_nil, List.length_cons, List.length_nil, List.cons_append, List.nil_append, List.append_nil, List.getElem?_cons_zero, List.getElem?_cons_succ, List.getElem?_nil, List.replicate, List.set_cons_succ, List.set_cons_zero, Nat.reduceAdd, Nat.reduceSub, Nat.reduceLeDiff, run_eqi, run_nei, run_lt, run_le, run_gt, run_ge, run_addi, run_iaddi, true_and, and_true, Bool.not_eq_true, Bool.not_true, Bool.not_false, if_true, if_false, Bool.false_eq_true, ite_true, ite_false, reduceIte, reduceCtorEq, decide_eq_true_eq, decide_eq_false_iff_not]
    refine ⟨⟨by decide, by decide, by decide, by decide⟩, fun j η G' => η = ((stL sc a (some (eL e2 cells)) pl (some (eL .int [1, 2, 3])) (some (.int m)) (some (.ref pd)) (some (eD k2 .bl sh)) (some (eD k3 .int kvs)) none none none none).set 2 (some (.int r))).set 12 (some (eL e2 (rimL r))) ∧ G' = Gw (up G pd (.lst ((A ++ ((rangeL (-6) 20).take j).flatMap (D2 cells m r)).map e3))) a ns c, ⟨rfl, by simp⟩, fun _ _ _ _ => trivial, ?_, ?_⟩
    · rintro j d η G' hd ⟨rfl, rfl⟩
      obtain ⟨x, hj, rfl⟩ := get_map hd
      have hj26 : j < 26 := by rw [← len20]; exact (List.getElem?_eq_some_iff.mp hj).1
      generalize hB : A ++ ((rangeL (-6) 20).take j).flatMap (D2 cells m r) = B
      have hBl : B.length ≤ 4 * 676 := by
        rw [← hB, List.length_append]
        have := len_flatMap (f := D2 cells m r) (B := 26) (xs := (rangeL (-6) 20).take j) fun x _ => D2_len cells m r x
        have h2 : ((rangeL (-6) 20).take j).length ≤ 26 := by rw [List.length_take]; omega
        have := Nat.le_trans this (Nat.mul_le_mul_right 26 h2)
        omega
      refine ⟨⟨by decide, by decide, by decide, by decide⟩, fun l η G' => η = (((stL sc a (some (eL e2 cells)) pl (some (eL .int [1, 2, 3])) (some (.int m)) (some (.ref pd)) (some (eD k2 .bl sh)) (some (eD k3 .int kvs)) none none none none).set 2 (some (.int r))).set 12 (some (eL e2 (rimL r)))).set 4 (some (.int x)) ∧ G' = Gw (up G pd (.lst ((B ++ (((rangeL (-6) 20).take l).filter fun y => decide (((rimL r).length : Int) - m ≤ brightN cells (x, y, r))).map fun y => (x, y, r)).map e3))) a ns c, ⟨rfl, by simp⟩, fun _ _ _ _ => trivial, ?_, ?_⟩
      · rintro l d η G' hd ⟨rfl, rfl⟩
        obtain ⟨y, hl, rfl⟩ := get_map hd
        generalize hC : B ++ (((rangeL (-6) 20).take l).filter fun y => decide (((rimL r).length : Int) - m ≤ brightN cells (x, y, r))).map (fun y => (x, y, r)) = C
        have hCl : C.length ≤ 5 * 676 := by
          rw [← hC, List.length_append, List.length_map]
          have := filter_len (fun y => decide (((rimL r).length : Int) - m ≤ brightN cells (x, y, r))) (rangeL (-6) 20) l
          rw [len20] at this
          omega
        simp only [stL, dLc, diSeq, dSeq, dIfS, dTest, dOp, dName, dC, dRet, dLstF, dCons, dNil, dTup, dNext, dAsg, dLstM, gdName, dDrop, dM, dM0, dIf, dAnd, dOr, dNot, dAndV, dOrV, dNotV, dChain, dFz, dRetF, dRetN, dBreak, dCont, dCB, gdTup, gdCons, gdNil, gdSub, dNeg, dAug, dAugS, dFrz, dPar, dNoPart, dPart, dSlice, dYes, wipeD, i2, d1, d2, d3, startD, List.map_cons, List.map_nil, List.length_cons, List.length_nil, List.cons_append, List.nil_append, List.append_nil, List.getElem?_cons_zero, List.getElem?_cons_succ, List.getElem?_nil, List.replicate, List.set_cons_succ, List.set_cons_zero, Nat.reduceAdd, Nat.reduceSub, Nat.reduceLeDiff, run_eqi, run_nei, run_lt, run_le, run_gt, run_ge, run_addi, run_iaddi, true_and, and_true, Bool.not_eq_true, Bool.not_true, Bool.not_false, if_true, if_false, Bool.false_eq_true, ite_true, ite_false, reduceIte, reduceCtorEq, decide_eq_true_eq, decide_eq_false_iff_not]
        intro p2 hp2
        obtain ⟨e2', hap2⟩ := gw_new (o := .lst []) hp2
        have hgp2 := gw_none hap2 hp2
        refine ⟨fun i acc G' => acc = List.replicate (((rimL r).take i).filter fun d => decide (shiftP (x, y, r) d ∈ cells)).length (.int 1) ∧ G' = Gw (up (up G pd (.lst (C.map e3))) p2 (.lst acc)) a ns c, ⟨rfl, e2'⟩, ?_, ?_, ?_⟩
        · rintro i acc G' ⟨rfl, rfl⟩
          exact ⟨trivial, gw_at hap2⟩
        · rintro i d acc G' hd ⟨rfl, rfl⟩
          obtain ⟨dd, hi, rfl⟩ := get_map hd
          simp only [e2, dSeq, dIfS, dTest, dOp, dName, dC, dRet, dLstF, dCons, dNil, dTup, dNext, dAsg, dLstM, gdName, dDrop, dM, dM0, dIf, dAnd, dOr, dNot, dAndV, dOrV, dNotV, dChain, dFz, dRetF, dRetN, dBreak, dCont, dCB, gdTup, gdCons, gdNil, gdSub, dNeg, dAug, dAugS, dFrz, dPar, dNoPart, dPart, dSlice, dYes, wipeD, i2, d1, d2, d3, startD, List.map_cons, List.map_nil, List.length_cons, List.length_nil, List.cons_append, List.nil_append, List.append_nil, List.getElem?_cons_zero, List.getElem?_cons_succ, List.getElem?_nil, List.replicate, List.set_cons_succ, List.set_cons_zero, Nat.reduceAdd, Nat.reduceSub, Nat.reduceLeDiff, run_eqi, run_nei, run_lt, run_le, run_gt, run_ge, run_addi, run_iaddi, true_and, and_true, Bool.not_eq_true, Bool.not_true, Bool.not_false, if_true, if_false, Bool.false_eq_true, ite_true, ite_false, reduceIte, reduceCtorEq, decide_eq_true_eq, decide_eq_false_iff_not]
          refine run_inD tk2 (a := shiftP (x, y, r) dd) (dicN_eD k2 D.bl sh _) ?_
          have hb2 : (aget sh (shiftP (x, y, r) dd)).isSome = decide (shiftP (x, y, r) dd ∈ cells) := by
            rw [Bool.eq_iff_iff, aget_mem, hsh, decide_eq_true_eq]
          have hrl := (rim_facts _ (r123 hr)).2.1
          have hfl := filter_len (fun d => decide (shiftP (x, y, r) d ∈ cells)) (rimL r) i
          rw [hb2]
          by_cases z : shiftP (x, y, r) dd ∈ cells
          · simp only [decide_eq_true z, Bool.false_bne, dSeq, dIfS, dTest, dOp, dName, dC, dRet, dLstF, dCons, dNil, dTup, dNext, dAsg, dLstM, gdName, dDrop, dM, dM0, dIf, dAnd, dOr, dNot, dAndV, dOrV, dNotV, dChain, dFz, dRetF, dRetN, dBreak, dCont, dCB, gdTup, gdCons, gdNil, gdSub, dNeg, dAug, dAugS, dFrz, dPar, dNoPart, dPart, dSlice, dYes, wipeD, i2, d1, d2, d3, startD, List.map_cons, List.map_nil, List.length_cons, List.length_nil, List.cons_append, List.nil_append, List.append_nil, List.getElem?_cons_zero, List.getElem?_cons_succ, List.getElem?_nil, List.replicate, List.set_cons_succ, List.set_cons_zero, Nat.reduceAdd, Nat.reduceSub, Nat.reduceLeDiff, run_eqi, run_nei, run_lt, run_le, run_gt, run_ge, run_addi, run_iaddi, true_and, and_true, Bool.not_eq_true, Bool.not_true, Bool.not_false, if_true, if_false, Bool.false_eq_true, ite_true, ite_false, reduceIte, reduceCtorEq, decide_eq_true_eq, decide_eq_false_iff_not]
            refine ⟨small_line (by rw [List.length_replicate]; omega), gw_at hap2, ?_, gw_up hap2⟩
            rw [take_snoc hi, List.filter_append, List.length_append]
            have : ([dd].filter fun d => decide (shiftP (x, y, r) d ∈ cells)).length = 1 := by simp [z]
            rw [this, List.replicate_succ']
          · simp only [decide_eq_false z, Bool.false_bne, dSeq, dIfS, dTest, dOp, dName, dC, dRet, dLstF, dCons, dNil, dTup, dNext, dAsg, dLstM, gdName, dDrop, dM, dM0, dIf, dAnd, dOr, dNot, dAndV, dOrV, dNotV, dChain, dFz, dRetF, dRetN, dBreak, dCont, dCB, gdTup, gdCons, gdNil, gdSub, dNeg, dAug, dAugS, dFrz, dPar, dNoPart, dPart, dSlice, dYes, wipeD, i2, d1, d2, d3, startD, List.map_cons, List.map_nil, List.length_cons, List.length_nil, List.cons_append, List.nil_append, List.append_nil, List.getElem?_cons_zero, List.getElem?_cons_succ, List.getElem?_nil, List.replicate, List.set_cons_succ, List.set_cons_zero, Nat.reduceAdd, Nat.reduceSub, Nat.reduceLeDiff, run_eqi, run_nei, run_lt, run_le, run_gt, run_ge, run_addi, run_iaddi, true_and, and_true, Bool.not_eq_true, Bool.not_true, Bool.not_false, if_true, if_false, Bool.false_eq_true, ite_true, ite_false, reduceIte, reduceCtorEq, decide_eq_true_eq, decide_eq_false_iff_not]
            rw [take_snoc hi, List.filter_append, List.length_append]
            have : ([dd].filter fun d => decide (shiftP (x, y, r) d ∈ cells)).length = 0 := by simp [z]
            rw [this, Nat.add_zero]
        · rintro acc G' ⟨rfl, rfl⟩
          rw [List.length_map, List.take_length]
          simp only [gw_at hap2, gw_dl hap2 hgp2, DO.tree, dSeq, dIfS, dTest, dOp, dName, dC, dRet, dLstF, dCons, dNil, dTup, dNext, dAsg, dLstM, gdName, dDrop, dM, dM0, dIf, dAnd, dOr, dNot, dAndV, dOrV, dNotV, dChain, dFz, dRetF, dRetN, dBreak, dCont, dCB, gdTup, gdCons, gdNil, gdSub, dNeg, dAug, dAugS, dFrz, dPar, dNoPart, dPart, dSlice, dYes, wipeD, i2, d1, d2, d3, startD, List.map_cons, List.map_nil, List.length_cons, List.length_nil, List.cons_append, List.nil_append, List.append_nil, List.getElem?_cons_zero, List.getElem?_cons_succ, List.getElem?_nil, List.replicate, List.set_cons_succ, List.set_cons_zero, Nat.reduceAdd, Nat.reduceSub, Nat.reduceLeDiff, run_eqi, run_nei, run_lt, run_le, run_gt, run_ge, run_addi, run_iaddi, true_and, and_true, Bool.not_eq_true, Bool.not_true, Bool.not_false, if_true, if_false, Bool.false_eq_true, ite_true, ite_false, reduceIte, reduceCtorEq, decide_eq_true_eq, decide_eq_false_iff_not]
          rw [run_len (d := .nd .lst (List.replicate ((rimL r).filter fun d => decide (shiftP (x, y, r) d ∈ cells)).length (.int 1))) (ds := List.replicate ((rimL r).filter fun d => decide (shiftP (x, y, r) d ∈ cells)).length (.int 1)) rfl, List.length_replicate]
          refine run_getI tk3 (a := (x, y, r)) (dicN_eD k3 D.int kvs _) rfl ?_
          have hb : ((aget kvs (x, y, r)).getD 0) = (((rimL r).filter fun d => decide (shiftP (x, y, r) d ∈ cells)).length : Int) := by
            rw [cnt_getD cn, cnt_visits hc (pl := (x, y, r)) hr]
            rfl
          simp only [hb, run_len_eL, dSeq, dIfS, dTest, dOp, dName, dC, dRet, dLstF, dCons, dNil, dTup, dNext, dAsg, dLstM, gdName, dDrop, dM, dM0, dIf, dAnd, dOr, dNot, dAndV, dOrV, dNotV, dChain, dFz, dRetF, dRetN, dBreak, dCont, dCB, gdTup, gdCons, gdNil, gdSub, dNeg, dAug, dAugS, dFrz, dPar, dNoPart, dPart, dSlice, dYes, wipeD, i2, d1, d2, d3, startD, List.map_cons, List.map_nil, List.length_cons, List.length_nil, List.cons_append, List.nil_append, List.append_nil, List.getElem?_cons_zero, List.getElem?_cons_succ, List.getElem?_nil, List.replicate, List.set_cons_succ, List.set_cons_zero, Nat.reduceAdd, Nat.reduceSub, Nat.reduceLeDiff, run_eqi, run_nei, run_lt, run_le, run_gt, run_ge, run_addi, run_iaddi, true_and, and_true, Bool.not_eq_true, Bool.not_true, Bool.not_false, if_true, if_false, Bool.false_eq_true, ite_true, ite_false, reduceIte, reduceCtorEq, decide_eq_true_eq, decide_eq_false_iff_not]
          have hE : B ++ (((rangeL (-6) 20).take (l + 1)).filter fun y => decide (((rimL r).length : Int) - m ≤ brightN cells (x, y, r))).map (fun y => (x, y, r)) = C ++ ([y].filter fun y => decide (((rimL r).length : Int) - m ≤ brightN cells (x, y, r))).map (fun y => (x, y, r)) := by
            rw [take_snoc hl, List.filter_append, List.map_append, ← List.append_assoc, hC]
          by_cases z : ((rimL r).length : Int) - m ≤ (((rimL r).filter fun d => decide (shiftP (x, y, r) d ∈ cells)).length : Int)
          · rw [if_pos z]
            refine run_app (gw_at hap) (small_line (by rw [List.length_map]; omega)) ⟨_, (by repeat (first | exact Le.nil | apply Le.keep | apply Le.drop)), rfl, ?_⟩
            rw [gw_up hap, hE]
            have : ([y].filter fun y => decide (((rimL r).length : Int) - m ≤ brightN cells (x, y, r))) = [y] := by
              have z' : ((rimL r).length : Int) - m ≤ brightN cells (x, y, r) := z
              simp [z']
            rw [this, List.map_append]
            rfl
          · rw [if_neg z]
            refine ⟨_, (by repeat (first | exact Le.nil | apply Le.keep | apply Le.drop)), rfl, ?_⟩
            rw [hE]
            have : ([y].filter fun y => decide (((rimL r).length : Int) - m ≤ brightN cells (x, y, r))) = [] := by
              have z' : ¬ ((rimL r).length : Int) - m ≤ brightN cells (x, y, r) := z
              simp [z']
            rw [this]
            simp
      · rintro η G' ⟨rfl, rfl⟩
        refine ⟨_, (by repeat (first | exact Le.nil | apply Le.keep | apply Le.drop)), rfl, ?_⟩
        rw [List.length_map, List.take_length, take_snoc hj, List.flatMap_append, ← List.append_assoc, hB]
        simp [D2]
    · rintro η G' ⟨rfl, rfl⟩
      refine ⟨_, (by repeat (first | exact Le.nil | apply Le.keep | apply Le.drop)), rfl, ?_⟩
      rw [List.length_map, List.take_length, take_snoc hi, List.flatMap_append, hA]
      simp [D1]
  · rintro η G' ⟨rfl, rfl⟩
    exact k
end M
namespace M
open PySem PySem.Spec PyProof.Rows L2 DL

theorem gi3 (a b : Int × Int × Int) (h : [a.1, a.2.1, a.2.2] = [b.1, b.2.1, b.2.2]) : a = b := by
  obtain ⟨a1, a2, a3⟩ := a
  obtain ⟨b1, b2, b3⟩ := b
  simp at h
  simp [h]
theorem run_tup {d : D} {ds : List D} {G : DHp} {Q : DVK} (h : sqD d G = some ds) : dTuple [d] G Q = Q (.nd .tup ds) G := by
  unfold dTuple d1
  simp only [h]
theorem lsD_ref {p : Addr} {G : DHp} {ds : List D} (h : G p = some (.lst ds)) : lsD (.ref p) G = some ds := by
  unfold lsD
  rw [der_lt h]
theorem run_neb {x y : Bool} {G : DHp} {Q : DVK} (h : Q (.bl (x != y)) G) : dNe (.bl x) (.bl y) G Q := by
  refine ⟨⟨rfl, rfl, by show SeqAt.shaped (py (.bl x)) = true; rw [py]; rfl, by show SeqAt.shaped (py (.bl y)) = true; rw [py]; rfl⟩, ?_⟩
  show Q (.bl (!PyData.eqv (py (.bl x)) (py (.bl y)))) G
  rw [py, py, PyData.eqv]
  exact h
abbrev stM (sc : D) (a : Addr) (cells : List (Int × Int)) (ps : List (Int × Int × Int)) (m : Int) (pd : Addr) (sh kn one oth wh shr : Option D) : DSt := stL sc a (some (eL e2 cells)) (some (eL e3 ps)) (some (eL .int [1, 2, 3])) (some (.int m)) (some (.ref pd)) sh kn one oth wh shr
theorem u10 {F : DEnds} {sc : D} {a pd : Addr} {m : Int} {G : DHp} {sh kn : Option D} {cells : List (Int × Int)} {ps : List (Int × Int × Int)} (hc : cells.Nodup) (hb : ∀ c ∈ cells, okC c) (hlen : cells.length ≤ 151) (hm : m ≤ 3) (hG : G pd = some (.lst ((dueL cells m).map e3)))
    (k : F.nx (stM sc a cells ps m pd sh kn none none none none) G) : U_law_10 F (stM sc a cells ps m pd sh kn none none none none) G := by
  simp only [U_law_10, stL, dSeq, dIfS, dTest, dOp, dName, dC, dRet, dLstF, dCons, dNil, dTup, dNext, dAsg, dLstM, gdName, dDrop, dM, dM0, dIf, dAnd, dOr, dNot, dAndV, dOrV, dNotV, dChain, dFz, dRetF, dRetN, dBreak, dCont, dCB, gdTup, gdCons, gdNil, gdSub, dNeg, dAug, dAugS, dFrz, dPar, dNoPart, dPart, dSlice, dYes, wipeD, i2, d1, d2, d3, startD, List.map_cons, List.map_nil, List.length_cons, List.length_nil, List.cons_append, List.nil_append, List.append_nil, List.getElem?_cons_zero, List.getElem?_cons_succ, List.getElem?_nil, List.replicate, List.set_cons_succ, List.set_cons_zero, Nat.reduceAdd, Nat.reduceSub, Nat.reduceLeDiff, run_eqi, run_nei, run_lt, run_le, run_gt, run_ge, run_addi, run_iaddi, true_and, and_true, Bool.not_eq_true, Bool.not_true, Bool.not_false, if_true, if_false, Bool.false_eq_true, ite_true, ite_false, reduceIte, reduceCtorEq, decide_eq_true_eq, decide_eq_false_iff_not]
  refine ⟨cells, [1, 2, 3], m, rfl, rfl, rfl, by omega, by decide, fun r hr => by have := of123 hr; omega, fun ys nd hy => ?_⟩
  refine run_sorted (f := e3) (xs := dueL cells m) (lsD_ref hG) clean_e3 al3 (st3 _) (fun a => Nat.le_trans (depth_e3 a) (by decide)) fun b hb' => ?_
  simp only [up_same, dl_up hb', DO.tree, dSeq, dIfS, dTest, dOp, dName, dC, dRet, dLstF, dCons, dNil, dTup, dNext, dAsg, dLstM, gdName, dDrop, dM, dM0, dIf, dAnd, dOr, dNot, dAndV, dOrV, dNotV, dChain, dFz, dRetF, dRetN, dBreak, dCont, dCB, gdTup, gdCons, gdNil, gdSub, dNeg, dAug, dAugS, dFrz, dPar, dNoPart, dPart, dSlice, dYes, wipeD, i2, d1, d2, d3, startD, List.map_cons, List.map_nil, List.length_cons, List.length_nil, List.cons_append, List.nil_append, List.append_nil, List.getElem?_cons_zero, List.getElem?_cons_succ, List.getElem?_nil, List.replicate, List.set_cons_succ, List.set_cons_zero, Nat.reduceAdd, Nat.reduceSub, Nat.reduceLeDiff, run_eqi, run_nei, run_lt, run_le, run_gt, run_ge, run_addi, run_iaddi, true_and, and_true, Bool.not_eq_true, Bool.not_true, Bool.not_false, if_true, if_false, Bool.false_eq_true, ite_true, ite_false, reduceIte, reduceCtorEq, decide_eq_true_eq, decide_eq_false_iff_not]
  have hperm : ys.Perm (dueL cells m) := nodup_perm nd (due_nodup cells m) fun pl => by rw [hy]; exact in_due hc hb hm pl
  have e : srtT e3 ys = srtT e3 (dueL cells m) := srtT_eq (g := fun a => [a.1, a.2.1, a.2.2]) le_e3 gi3 hperm
  rw [e, run_tup (d := .nd .lst ((srtT e3 (dueL cells m)).map e3)) (ds := (srtT e3 (dueL cells m)).map e3) rfl]
  refine run_ne (clean_eT clean_e3 _) (clean_eT clean_e3 _) (Nat.le_trans (depth_eT depth_e3 _) (by decide)) (Nat.le_trans (depth_eT depth_e3 _) (by decide)) false (by constructor; exact (nomatch ·); intro h; exact (h rfl).elim) ?_
  simp only [dSeq, dIfS, dTest, dOp, dName, dC, dRet, dLstF, dCons, dNil, dTup, dNext, dAsg, dLstM, gdName, dDrop, dM, dM0, dIf, dAnd, dOr, dNot, dAndV, dOrV, dNotV, dChain, dFz, dRetF, dRetN, dBreak, dCont, dCB, gdTup, gdCons, gdNil, gdSub, dNeg, dAug, dAugS, dFrz, dPar, dNoPart, dPart, dSlice, dYes, wipeD, i2, d1, d2, d3, startD, List.map_cons, List.map_nil, List.length_cons, List.length_nil, List.cons_append, List.nil_append, List.append_nil, List.getElem?_cons_zero, List.getElem?_cons_succ, List.getElem?_nil, List.replicate, List.set_cons_succ, List.set_cons_zero, Nat.reduceAdd, Nat.reduceSub, Nat.reduceLeDiff, run_eqi, run_nei, run_lt, run_le, run_gt, run_ge, run_addi, run_iaddi, true_and, and_true, Bool.not_eq_true, Bool.not_true, Bool.not_false, if_true, if_false, Bool.false_eq_true, ite_true, ite_false, reduceIte, reduceCtorEq, decide_eq_true_eq, decide_eq_false_iff_not]
  exact k
theorem u11 {F : DEnds} {sc : D} {a pd : Addr} {ns : List Int} {c m : Int} {G : DHp} {sh kn : Option D} {cells : List (Int × Int)} {ps : List (Int × Int × Int)} (hl : ns.length ≤ 63)
    (k : ∀ (one : Int × Int × Int) (c' : Int), okP one → F.nx (stM sc a cells ps m pd sh kn (some (e3 one)) (some (eL e3 ps)) none none) (Gw G a ns c')) : U_law_11 F (stM sc a cells ps m pd sh kn none none none none) (Gw G a ns c) := by
  simp only [U_law_11, stL, dSeq, dIfS, dTest, dOp, dName, dC, dRet, dLstF, dCons, dNil, dTup, dNext, dAsg, dLstM, gdName, dDrop, dM, dM0, dIf, dAnd, dOr, dNot, dAndV, dOrV, dNotV, dChain, dFz, dRetF, dRetN, dBreak, dCont, dCB, gdTup, gdCons, gdNil, gdSub, dNeg, dAug, dAugS, dFrz, dPar, dNoPart, dPart, dSlice, dYes, wipeD, i2, d1, d2, d3, startD, List.map_cons, List.map_nil, List.length_cons, List.length_nil, List.cons_append, List.nil_append, List.append_nil, List.getElem?_cons_zero, List.getElem?_cons_succ, List.getElem?_nil, List.replicate, List.set_cons_succ, List.set_cons_zero, Nat.reduceAdd, Nat.reduceSub, Nat.reduceLeDiff, run_eqi, run_nei, run_lt, run_le, run_gt, run_ge, run_addi, run_iaddi, true_and, and_true, Bool.not_eq_true, Bool.not_true, Bool.not_false, if_true, if_false, Bool.false_eq_true, ite_true, ite_false, reduceIte, reduceCtorEq, decide_eq_true_eq, decide_eq_false_iff_not]
  refine gw_take (by decide) hl fun x1 hx0 hx1 => ?_
  refine gw_take (by decide) hl fun y1 hy0 hy1 => ?_
  refine gw_take (by decide) hl fun r1 hr0 hr1 => ?_
  simp only [dSeq, dIfS, dTest, dOp, dName, dC, dRet, dLstF, dCons, dNil, dTup, dNext, dAsg, dLstM, gdName, dDrop, dM, dM0, dIf, dAnd, dOr, dNot, dAndV, dOrV, dNotV, dChain, dFz, dRetF, dRetN, dBreak, dCont, dCB, gdTup, gdCons, gdNil, gdSub, dNeg, dAug, dAugS, dFrz, dPar, dNoPart, dPart, dSlice, dYes, wipeD, i2, d1, d2, d3, startD, List.map_cons, List.map_nil, List.length_cons, List.length_nil, List.cons_append, List.nil_append, List.append_nil, List.getElem?_cons_zero, List.getElem?_cons_succ, List.getElem?_nil, List.replicate, List.set_cons_succ, List.set_cons_zero, Nat.reduceAdd, Nat.reduceSub, Nat.reduceLeDiff, run_eqi, run_nei, run_lt, run_le, run_gt, run_ge, run_addi, run_iaddi, true_and, and_true, Bool.not_eq_true, Bool.not_true, Bool.not_false, if_true, if_false, Bool.false_eq_true, ite_true, ite_false, reduceIte, reduceCtorEq, decide_eq_true_eq, decide_eq_false_iff_not]
  exact k (x1, y1, 1 + r1) _ ⟨⟨hx0, hx1⟩, ⟨hy0, hy1⟩, by show 1 ≤ 1 + r1 ∧ 1 + r1 ≤ 3; omega⟩
theorem u12 {F : DEnds} {sc : D} {a pd : Addr} {ns : List Int} {c m : Int} {G : DHp} {sh kn one oth : Option D} {cells : List (Int × Int)} {ps : List (Int × Int × Int)}
    (k : ∀ pw : Addr, a ≠ pw → F.nx (stM sc a cells ps m pd sh kn one oth (some (.ref pw)) none) (Gw (up G pw (.lst [])) a ns c)) : U_law_12 F (stM sc a cells ps m pd sh kn one oth none none) (Gw G a ns c) := by
  simp only [U_law_12, stL, dSeq, dIfS, dTest, dOp, dName, dC, dRet, dLstF, dCons, dNil, dTup, dNext, dAsg, dLstM, gdName, dDrop, dM, dM0, dIf, dAnd, dOr, dNot, dAndV, dOrV, dNotV, dChain, dFz, dRetF, dRetN, dBreak, dCont, dCB, gdTup, gdCons, gdNil, gdSub, dNeg, dAug, dAugS, dFrz, dPar, dNoPart, dPart, dSlice, dYes, wipeD, i2, d1, d2, d3, startD, List.map_cons, List.map_nil, List.length_cons, List.length_nil, List.cons_append, List.nil_append, List.append_nil, List.getElem?_cons_zero, List.getElem?_cons_succ, List.getElem?_nil, List.replicate, List.set_cons_succ, List.set_cons_zero, Nat.reduceAdd, Nat.reduceSub, Nat.reduceLeDiff, run_eqi, run_nei, run_lt, run_le, run_gt, run_ge, run_addi, run_iaddi, true_and, and_true, Bool.not_eq_true, Bool.not_true, Bool.not_false, if_true, if_false, Bool.false_eq_true, ite_true, ite_false, reduceIte, reduceCtorEq, decide_eq_true_eq, decide_eq_false_iff_not]
  intro pw hp
  obtain ⟨e, hap⟩ := gw_new (o := .lst []) hp
  rw [e]
  exact k pw hap
theorem u13 {F : DEnds} {sc : D} {a pd pw : Addr} {ns : List Int} {c m : Int} {G : DHp} {sh kn one : Option D} {cells : List (Int × Int)} {ps : List (Int × Int × Int)} (hok : ∀ o ∈ ps, okP o) (h3 : ps.length ≤ 3) (hap : a ≠ pw)
    (k : ∀ cs : List (Int × Int), (∀ c ∈ cs, ∃ o ∈ ps, c ∈ ringAt o) → cs.length ≤ 147 → F.nx (stM sc a cells ps m pd sh kn one (some (eL e3 ps)) (some (.ref pw)) none) (Gw (up G pw (.lst (cs.map e2))) a ns c)) :
    U_law_13 F (stM sc a cells ps m pd sh kn one (some (eL e3 ps)) (some (.ref pw)) none) (Gw (up G pw (.lst [])) a ns c) := by
  refine ⟨fun i η G' => η = stM sc a cells ps m pd sh kn one (some (eL e3 ps)) (some (.ref pw)) none ∧ ∃ cs : List (Int × Int), G' = Gw (up G pw (.lst (cs.map e2))) a ns c ∧ (∀ c ∈ cs, ∃ o ∈ ps, c ∈ ringAt o) ∧ cs.length ≤ i * 49 ∧ i ≤ 3, ⟨rfl, [], rfl, (fun _ h => nomatch h), Nat.zero_le _, Nat.zero_le _⟩, fun _ _ _ _ => trivial, ?_, ?_⟩
  · rintro i d η G' hd ⟨rfl, cs, rfl, okc, hlen, hi3⟩
    obtain ⟨o, hi, rfl⟩ := get_map hd
    have ho := List.mem_of_getElem? hi
    have oo := hok o ho
    have hlt : i < 3 := Nat.lt_of_lt_of_le (List.getElem?_eq_some_iff.mp hi).1 h3
    obtain ⟨ox, oy, or⟩ := oo
    simp only [stL, e3, dLc, diSeq, dSeq, dIfS, dTest, dOp, dName, dC, dRet, dLstF, dCons, dNil, dTup, dNext, dAsg, dLstM, gdName, dDrop, dM, dM0, dIf, dAnd, dOr, dNot, dAndV, dOrV, dNotV, dChain, dFz, dRetF, dRetN, dBreak, dCont, dCB, gdTup, gdCons, gdNil, gdSub, dNeg, dAug, dAugS, dFrz, dPar, dNoPart, dPart, dSlice, dYes, wipeD, i2, d1, d2, d3, startD, List.map_cons, List.map_nil, List.length_cons, List.length_nil, List.cons_append, List.nil_append, List.append_nil, List.getElem?_cons_zero, List.getElem?_cons_succ, List.getElem?_nil, List.replicate, List.set_cons_succ, List.set_cons_zero, Nat.reduceAdd, Nat.reduceSub, Nat.reduceLeDiff, run_eqi, run_nei, run_lt, run_le, run_gt, run_ge, run_addi, run_iaddi, true_and, and_true, Bool.not_eq_true, Bool.not_true, Bool.not_false, if_true, if_false, Bool.false_eq_true, ite_true, ite_false, reduceIte, reduceCtorEq, decide_eq_true_eq, decide_eq_false_iff_not]
    refine ⟨o.2.2, rfl, by omega, by omega, ?_⟩
    intro p2 hp
    obtain ⟨e, hap2⟩ := gw_new (o := .lst []) hp
    have hgp := gw_none hap2 hp
    refine ⟨fun j acc G' => acc = (((rimL o.2.2).take j).map (shiftP o)).map e2 ∧ G' = Gw (up (up G pw (.lst (cs.map e2))) p2 (.lst acc)) a ns c, ⟨rfl, e⟩, ?_, ?_, ?_⟩
    · rintro j acc G' ⟨rfl, rfl⟩
      exact ⟨trivial, gw_at hap2⟩
    · rintro j d acc G' hd ⟨rfl, rfl⟩
      obtain ⟨dd, hj, rfl⟩ := get_map hd
      simp only [e2, dSeq, dIfS, dTest, dOp, dName, dC, dRet, dLstF, dCons, dNil, dTup, dNext, dAsg, dLstM, gdName, dDrop, dM, dM0, dIf, dAnd, dOr, dNot, dAndV, dOrV, dNotV, dChain, dFz, dRetF, dRetN, dBreak, dCont, dCB, gdTup, gdCons, gdNil, gdSub, dNeg, dAug, dAugS, dFrz, dPar, dNoPart, dPart, dSlice, dYes, wipeD, i2, d1, d2, d3, startD, List.map_cons, List.map_nil, List.length_cons, List.length_nil, List.cons_append, List.nil_append, List.append_nil, List.getElem?_cons_zero, List.getElem?_cons_succ, List.getElem?_nil, List.replicate, List.set_cons_succ, List.set_cons_zero, Nat.reduceAdd, Nat.reduceSub, Nat.reduceLeDiff, run_eqi, run_nei, run_lt, run_le, run_gt, run_ge, run_addi, run_iaddi, true_and, and_true, Bool.not_eq_true, Bool.not_true, Bool.not_false, if_true, if_false, Bool.false_eq_true, ite_true, ite_false, reduceIte, reduceCtorEq, decide_eq_true_eq, decide_eq_false_iff_not]
      refine ⟨small_line ?_, gw_at hap2, ?_, gw_up hap2⟩
      · rw [List.length_map, List.length_map, List.length_take]
        have := (rim_facts _ (r123 or)).2.1
        omega
      · rw [take_snoc hj, List.map_append, List.map_append]
        rfl
    · rintro acc G' ⟨rfl, rfl⟩
      have h49 := (rim_facts _ (r123 or)).2.1
      rw [List.length_map, List.take_length]
      simp only [gw_at hap2, gw_dl hap2 hgp, DO.tree, dSeq, dIfS, dTest, dOp, dName, dC, dRet, dLstF, dCons, dNil, dTup, dNext, dAsg, dLstM, gdName, dDrop, dM, dM0, dIf, dAnd, dOr, dNot, dAndV, dOrV, dNotV, dChain, dFz, dRetF, dRetN, dBreak, dCont, dCB, gdTup, gdCons, gdNil, gdSub, dNeg, dAug, dAugS, dFrz, dPar, dNoPart, dPart, dSlice, dYes, wipeD, i2, d1, d2, d3, startD, List.map_cons, List.map_nil, List.length_cons, List.length_nil, List.cons_append, List.nil_append, List.append_nil, List.getElem?_cons_zero, List.getElem?_cons_succ, List.getElem?_nil, List.replicate, List.set_cons_succ, List.set_cons_zero, Nat.reduceAdd, Nat.reduceSub, Nat.reduceLeDiff, run_eqi, run_nei, run_lt, run_le, run_gt, run_ge, run_addi, run_iaddi, true_and, and_true, Bool.not_eq_true, Bool.not_true, Bool.not_false, if_true, if_false, Bool.false_eq_true, ite_true, ite_false, reduceIte, reduceCtorEq, decide_eq_true_eq, decide_eq_false_iff_not]
      refine run_iext (xs := cs.map e2) (ys := ((rimL o.2.2).map (shiftP o)).map e2) (gw_at hap) rfl (le_line (by rw [List.length_map, List.length_map, List.length_map]; omega)) ?_
      refine ⟨_, (by repeat (first | exact Le.nil | apply Le.keep | apply Le.drop)), rfl, cs ++ ringAt o, by rw [gw_up hap, List.map_append]; rfl, fun q hq => ?_, by rw [List.length_append]; unfold ringAt; rw [List.length_map]; omega, by omega⟩
      rcases List.mem_append.mp hq with hq | hq
      · exact okc q hq
      · exact ⟨o, ho, hq⟩
  · rintro η G' ⟨rfl, cs, rfl, okc, hlen, hi3⟩
    exact k cs okc (by omega)
theorem u14 {F : DEnds} {sc : D} {a pd : Addr} {ns : List Int} {c m : Int} {G : DHp} {sh kn wh : Option D} {one : Int × Int × Int} {cells : List (Int × Int)} {ps : List (Int × Int × Int)} (hok : ∀ o ∈ ps, okP o) (h3 : ps.length ≤ 3) (hone : okP one)
    (k : ∀ q : Addr, a ≠ q → G q = none → F.nx (stM sc a cells ps m pd sh kn (some (e3 one)) (some (eL e3 ps)) wh (some (.ref q))) (Gw (up G q (.lst (ps.map fun o => D.int (sharedM one o)))) a ns c)) :
    U_law_14 F (stM sc a cells ps m pd sh kn (some (e3 one)) (some (eL e3 ps)) wh none) (Gw G a ns c) := by
  obtain ⟨_, _, or1⟩ := hone
  simp only [U_law_14, stL, dLc, diSeq, dSeq, dIfS, dTest, dOp, dName, dC, dRet, dLstF, dCons, dNil, dTup, dNext, dAsg, dLstM, gdName, dDrop, dM, dM0, dIf, dAnd, dOr, dNot, dAndV, dOrV, dNotV, dChain, dFz, dRetF, dRetN, dBreak, dCont, dCB, gdTup, gdCons, gdNil, gdSub, dNeg, dAug, dAugS, dFrz, dPar, dNoPart, dPart, dSlice, dYes, wipeD, i2, d1, d2, d3, startD, List.map_cons, List.map_nil, List.length_cons, List.length_nil, List.cons_append, List.nil_append, List.append_nil, List.getElem?_cons_zero, List.getElem?_cons_succ, List.getElem?_nil, List.replicate, List.set_cons_succ, List.set_cons_zero, Nat.reduceAdd, Nat.reduceSub, Nat.reduceLeDiff, run_eqi, run_nei, run_lt, run_le, run_gt, run_ge, run_addi, run_iaddi, true_and, and_true, Bool.not_eq_true, Bool.not_true, Bool.not_false, if_true, if_false, Bool.false_eq_true, ite_true, ite_false, reduceIte, reduceCtorEq, decide_eq_true_eq, decide_eq_false_iff_not]
  intro q hq
  obtain ⟨e, haq⟩ := gw_new (o := .lst []) hq
  have hgq := gw_none haq hq
  refine ⟨fun i acc G' => acc = (ps.take i).map (fun o => D.int (sharedM one o)) ∧ G' = Gw (up G q (.lst acc)) a ns c, ⟨rfl, e⟩, ?_, ?_, ?_⟩
  · rintro i acc G' ⟨rfl, rfl⟩
    exact ⟨trivial, gw_at haq⟩
  · rintro i d acc G' hd ⟨rfl, rfl⟩
    obtain ⟨o, hi, rfl⟩ := get_map hd
    obtain ⟨_, _, or⟩ := hok o (List.mem_of_getElem? hi)
    have hlt : i < 3 := Nat.lt_of_lt_of_le (List.getElem?_eq_some_iff.mp hi).1 h3
    simp only [e3, dSeq, dIfS, dTest, dOp, dName, dC, dRet, dLstF, dCons, dNil, dTup, dNext, dAsg, dLstM, gdName, dDrop, dM, dM0, dIf, dAnd, dOr, dNot, dAndV, dOrV, dNotV, dChain, dFz, dRetF, dRetN, dBreak, dCont, dCB, gdTup, gdCons, gdNil, gdSub, dNeg, dAug, dAugS, dFrz, dPar, dNoPart, dPart, dSlice, dYes, wipeD, i2, d1, d2, d3, startD, List.map_cons, List.map_nil, List.length_cons, List.length_nil, List.cons_append, List.nil_append, List.append_nil, List.getElem?_cons_zero, List.getElem?_cons_succ, List.getElem?_nil, List.replicate, List.set_cons_succ, List.set_cons_zero, Nat.reduceAdd, Nat.reduceSub, Nat.reduceLeDiff, run_eqi, run_nei, run_lt, run_le, run_gt, run_ge, run_addi, run_iaddi, true_and, and_true, Bool.not_eq_true, Bool.not_true, Bool.not_false, if_true, if_false, Bool.false_eq_true, ite_true, ite_false, reduceIte, reduceCtorEq, decide_eq_true_eq, decide_eq_false_iff_not]
    refine run_ix (by decide) rfl ⟨one.2.2, rfl, by omega, by omega, ?_⟩
    intro p2 hp
    obtain ⟨e, hap2⟩ := gw_new (o := .lst []) hp
    have hgp := gw_none hap2 hp
    refine ⟨fun j acc2 G' => acc2 = List.replicate (((rimL one.2.2).take j).filter fun d => decide (shiftP one d ∈ ringAt o)).length (.int 1) ∧ G' = Gw (up (up G q (.lst ((ps.take i).map (fun o => D.int (sharedM one o))))) p2 (.lst acc2)) a ns c, ⟨rfl, e⟩, ?_, ?_, ?_⟩
    · rintro j acc G' ⟨rfl, rfl⟩
      exact ⟨trivial, gw_at hap2⟩
    · rintro j d acc G' hd ⟨rfl, rfl⟩
      obtain ⟨dd, hj, rfl⟩ := get_map hd
      simp only [e2, dSeq, dIfS, dTest, dOp, dName, dC, dRet, dLstF, dCons, dNil, dTup, dNext, dAsg, dLstM, gdName, dDrop, dM, dM0, dIf, dAnd, dOr, dNot, dAndV, dOrV, dNotV, dChain, dFz, dRetF, dRetN, dBreak, dCont, dCB, gdTup, gdCons, gdNil, gdSub, dNeg, dAug, dAugS, dFrz, dPar, dNoPart, dPart, dSlice, dYes, wipeD, i2, d1, d2, d3, startD, List.map_cons, List.map_nil, List.length_cons, List.length_nil, List.cons_append, List.nil_append, List.append_nil, List.getElem?_cons_zero, List.getElem?_cons_succ, List.getElem?_nil, List.replicate, List.set_cons_succ, List.set_cons_zero, Nat.reduceAdd, Nat.reduceSub, Nat.reduceLeDiff, run_eqi, run_nei, run_lt, run_le, run_gt, run_ge, run_addi, run_iaddi, true_and, and_true, Bool.not_eq_true, Bool.not_true, Bool.not_false, if_true, if_false, Bool.false_eq_true, ite_true, ite_false, reduceIte, reduceCtorEq, decide_eq_true_eq, decide_eq_false_iff_not]
      refine run_ix (by decide) rfl ?_
      simp only [dSeq, dIfS, dTest, dOp, dName, dC, dRet, dLstF, dCons, dNil, dTup, dNext, dAsg, dLstM, gdName, dDrop, dM, dM0, dIf, dAnd, dOr, dNot, dAndV, dOrV, dNotV, dChain, dFz, dRetF, dRetN, dBreak, dCont, dCB, gdTup, gdCons, gdNil, gdSub, dNeg, dAug, dAugS, dFrz, dPar, dNoPart, dPart, dSlice, dYes, wipeD, i2, d1, d2, d3, startD, List.map_cons, List.map_nil, List.length_cons, List.length_nil, List.cons_append, List.nil_append, List.append_nil, List.getElem?_cons_zero, List.getElem?_cons_succ, List.getElem?_nil, List.replicate, List.set_cons_succ, List.set_cons_zero, Nat.reduceAdd, Nat.reduceSub, Nat.reduceLeDiff, run_eqi, run_nei, run_lt, run_le, run_gt, run_ge, run_addi, run_iaddi, true_and, and_true, Bool.not_eq_true, Bool.not_true, Bool.not_false, if_true, if_false, Bool.false_eq_true, ite_true, ite_false, reduceIte, reduceCtorEq, decide_eq_true_eq, decide_eq_false_iff_not]
      refine run_ix (by decide) rfl ?_
      simp only [dSeq, dIfS, dTest, dOp, dName, dC, dRet, dLstF, dCons, dNil, dTup, dNext, dAsg, dLstM, gdName, dDrop, dM, dM0, dIf, dAnd, dOr, dNot, dAndV, dOrV, dNotV, dChain, dFz, dRetF, dRetN, dBreak, dCont, dCB, gdTup, gdCons, gdNil, gdSub, dNeg, dAug, dAugS, dFrz, dPar, dNoPart, dPart, dSlice, dYes, wipeD, i2, d1, d2, d3, startD, List.map_cons, List.map_nil, List.length_cons, List.length_nil, List.cons_append, List.nil_append, List.append_nil, List.getElem?_cons_zero, List.getElem?_cons_succ, List.getElem?_nil, List.replicate, List.set_cons_succ, List.set_cons_zero, Nat.reduceAdd, Nat.reduceSub, Nat.reduceLeDiff, run_eqi, run_nei, run_lt, run_le, run_gt, run_ge, run_addi, run_iaddi, true_and, and_true, Bool.not_eq_true, Bool.not_true, Bool.not_false, if_true, if_false, Bool.false_eq_true, ite_true, ite_false, reduceIte, reduceCtorEq, decide_eq_true_eq, decide_eq_false_iff_not]
      refine run_ix (by decide) rfl ?_
      simp only [dSeq, dIfS, dTest, dOp, dName, dC, dRet, dLstF, dCons, dNil, dTup, dNext, dAsg, dLstM, gdName, dDrop, dM, dM0, dIf, dAnd, dOr, dNot, dAndV, dOrV, dNotV, dChain, dFz, dRetF, dRetN, dBreak, dCont, dCB, gdTup, gdCons, gdNil, gdSub, dNeg, dAug, dAugS, dFrz, dPar, dNoPart, dPart, dSlice, dYes, wipeD, i2, d1, d2, d3, startD, List.map_cons, List.map_nil, List.length_cons, List.length_nil, List.cons_append, List.nil_append, List.append_nil, List.getElem?_cons_zero, List.getElem?_cons_succ, List.getElem?_nil, List.replicate, List.set_cons_succ, List.set_cons_zero, Nat.reduceAdd, Nat.reduceSub, Nat.reduceLeDiff, run_eqi, run_nei, run_lt, run_le, run_gt, run_ge, run_addi, run_iaddi, true_and, and_true, Bool.not_eq_true, Bool.not_true, Bool.not_false, if_true, if_false, Bool.false_eq_true, ite_true, ite_false, reduceIte, reduceCtorEq, decide_eq_true_eq, decide_eq_false_iff_not]
      refine run_ix (by decide) rfl ?_
      simp only [dSeq, dIfS, dTest, dOp, dName, dC, dRet, dLstF, dCons, dNil, dTup, dNext, dAsg, dLstM, gdName, dDrop, dM, dM0, dIf, dAnd, dOr, dNot, dAndV, dOrV, dNotV, dChain, dFz, dRetF, dRetN, dBreak, dCont, dCB, gdTup, gdCons, gdNil, gdSub, dNeg, dAug, dAugS, dFrz, dPar, dNoPart, dPart, dSlice, dYes, wipeD, i2, d1, d2, d3, startD, List.map_cons, List.map_nil, List.length_cons, List.length_nil, List.cons_append, List.nil_append, List.append_nil, List.getElem?_cons_zero, List.getElem?_cons_succ, List.getElem?_nil, List.replicate, List.set_cons_succ, List.set_cons_zero, Nat.reduceAdd, Nat.reduceSub, Nat.reduceLeDiff, run_eqi, run_nei, run_lt, run_le, run_gt, run_ge, run_addi, run_iaddi, true_and, and_true, Bool.not_eq_true, Bool.not_true, Bool.not_false, if_true, if_false, Bool.false_eq_true, ite_true, ite_false, reduceIte, reduceCtorEq, decide_eq_true_eq, decide_eq_false_iff_not]
      refine run_ix (by decide) rfl ⟨o.2.2, rfl, by omega, by omega, ?_⟩
      refine run_in (ds := (rimL o.2.2).map e2) (.inl rfl) (show clean (e2 (one.1 + dd.1 - o.1, one.2.1 + dd.2 - o.2.1)) = true from rfl) (cleans_map clean_e2 _) (Nat.le_trans (depth_e2 (one.1 + dd.1 - o.1, one.2.1 + dd.2 - o.2.1)) (by decide)) (decide (shiftP one dd ∈ ringAt o)) ?_ ?_
      · rw [decide_eq_true_eq]
        unfold ringAt
        constructor
        · intro h
          obtain ⟨d', hd', e⟩ := List.mem_map.mp h
          refine List.mem_map.mpr ⟨d', hd', ?_⟩
          obtain ⟨a1, a2⟩ := d'
          simp only [shiftP, Prod.mk.injEq] at e
          show D.nd .tup [.int a1, .int a2] = D.nd .tup [.int (one.1 + dd.1 - o.1), .int (one.2.1 + dd.2 - o.2.1)]
          rw [show a1 = one.1 + dd.1 - o.1 by omega, show a2 = one.2.1 + dd.2 - o.2.1 by omega]
        · intro h
          obtain ⟨d', hd', e⟩ := List.mem_map.mp h
          have e := e2_inj.mp (show e2 d' = e2 (one.1 + dd.1 - o.1, one.2.1 + dd.2 - o.2.1) from e)
          refine List.mem_map.mpr ⟨d', hd', ?_⟩
          rw [e]
          simp only [shiftP, Prod.mk.injEq]
          omega
      · have hrl := (rim_facts _ (r123 or1)).2.1
        have hfl := filter_len (fun d => decide (shiftP one d ∈ ringAt o)) (rimL one.2.2) j
        by_cases z : shiftP one dd ∈ ringAt o
        · simp only [decide_eq_true z, Bool.false_bne, dSeq, dIfS, dTest, dOp, dName, dC, dRet, dLstF, dCons, dNil, dTup, dNext, dAsg, dLstM, gdName, dDrop, dM, dM0, dIf, dAnd, dOr, dNot, dAndV, dOrV, dNotV, dChain, dFz, dRetF, dRetN, dBreak, dCont, dCB, gdTup, gdCons, gdNil, gdSub, dNeg, dAug, dAugS, dFrz, dPar, dNoPart, dPart, dSlice, dYes, wipeD, i2, d1, d2, d3, startD, List.map_cons, List.map_nil, List.length_cons, List.length_nil, List.cons_append, List.nil_append, List.append_nil, List.getElem?_cons_zero, List.getElem?_cons_succ, List.getElem?_nil, List.replicate, List.set_cons_succ, List.set_cons_zero, Nat.reduceAdd, Nat.reduceSub, Nat.reduceLeDiff, run_eqi, run_nei, run_lt, run_le, run_gt, run_ge, run_addi, run_iaddi, true_and, and_true, Bool.not_eq_true, Bool.not_true, Bool.not_false, if_true, if_false, Bool.false_eq_true, ite_true, ite_false, reduceIte, reduceCtorEq, decide_eq_true_eq, decide_eq_false_iff_not]
          refine ⟨small_line (by rw [List.length_replicate]; omega), gw_at hap2, ?_, gw_up hap2⟩
          rw [take_snoc hj, List.filter_append, List.length_append]
          have : ([dd].filter fun d => decide (shiftP one d ∈ ringAt o)).length = 1 := by simp [z]
          rw [this, List.replicate_succ']
        · simp only [decide_eq_false z, Bool.false_bne, dSeq, dIfS, dTest, dOp, dName, dC, dRet, dLstF, dCons, dNil, dTup, dNext, dAsg, dLstM, gdName, dDrop, dM, dM0, dIf, dAnd, dOr, dNot, dAndV, dOrV, dNotV, dChain, dFz, dRetF, dRetN, dBreak, dCont, dCB, gdTup, gdCons, gdNil, gdSub, dNeg, dAug, dAugS, dFrz, dPar, dNoPart, dPart, dSlice, dYes, wipeD, i2, d1, d2, d3, startD, List.map_cons, List.map_nil, List.length_cons, List.length_nil, List.cons_append, List.nil_append, List.append_nil, List.getElem?_cons_zero, List.getElem?_cons_succ, List.getElem?_nil, List.replicate, List.set_cons_succ, List.set_cons_zero, Nat.reduceAdd, Nat.reduceSub, Nat.reduceLeDiff, run_eqi, run_nei, run_lt, run_le, run_gt, run_ge, run_addi, run_iaddi, true_and, and_true, Bool.not_eq_true, Bool.not_true, Bool.not_false, if_true, if_false, Bool.false_eq_true, ite_true, ite_false, reduceIte, reduceCtorEq, decide_eq_true_eq, decide_eq_false_iff_not]
          rw [take_snoc hj, List.filter_append, List.length_append]
          have : ([dd].filter fun d => decide (shiftP one d ∈ ringAt o)).length = 0 := by simp [z]
          rw [this, Nat.add_zero]
    · rintro acc G' ⟨rfl, rfl⟩
      rw [List.length_map, List.take_length]
      simp only [gw_at hap2, gw_dl hap2 hgp, DO.tree, dSeq, dIfS, dTest, dOp, dName, dC, dRet, dLstF, dCons, dNil, dTup, dNext, dAsg, dLstM, gdName, dDrop, dM, dM0, dIf, dAnd, dOr, dNot, dAndV, dOrV, dNotV, dChain, dFz, dRetF, dRetN, dBreak, dCont, dCB, gdTup, gdCons, gdNil, gdSub, dNeg, dAug, dAugS, dFrz, dPar, dNoPart, dPart, dSlice, dYes, wipeD, i2, d1, d2, d3, startD, List.map_cons, List.map_nil, List.length_cons, List.length_nil, List.cons_append, List.nil_append, List.append_nil, List.getElem?_cons_zero, List.getElem?_cons_succ, List.getElem?_nil, List.replicate, List.set_cons_succ, List.set_cons_zero, Nat.reduceAdd, Nat.reduceSub, Nat.reduceLeDiff, run_eqi, run_nei, run_lt, run_le, run_gt, run_ge, run_addi, run_iaddi, true_and, and_true, Bool.not_eq_true, Bool.not_true, Bool.not_false, if_true, if_false, Bool.false_eq_true, ite_true, ite_false, reduceIte, reduceCtorEq, decide_eq_true_eq, decide_eq_false_iff_not]
      rw [run_len (d := .nd .lst (List.replicate ((rimL one.2.2).filter fun d => decide (shiftP one d ∈ ringAt o)).length (.int 1))) (ds := List.replicate ((rimL one.2.2).filter fun d => decide (shiftP one d ∈ ringAt o)).length (.int 1)) rfl, List.length_replicate]
      refine ⟨small_line (by rw [List.length_map, List.length_take]; omega), gw_at haq, ?_, gw_up haq⟩
      rw [take_snoc hi, List.map_append]
      rfl
  · rintro acc G' ⟨rfl, rfl⟩
    rw [List.length_map, List.take_length]
    exact k q haq hgq
theorem u15 {F : DEnds} {sc : D} {a pd : Addr} {m : Int} {G : DHp} {sh kn wh : Option D} {one : Int × Int × Int} {cells : List (Int × Int)} {ps : List (Int × Int × Int)} (hok : ∀ o ∈ ps, okP o) (h3 : ps.length ≤ 3) (hone : okP one)
    (k : F.nx (stM sc a cells ps m pd sh kn (some (e3 one)) (some (eL e3 ps)) wh (some (.nd .lst (ps.map fun o => D.int (sharedM one o))))) G) :
    U_law_15 F (stM sc a cells ps m pd sh kn (some (e3 one)) (some (eL e3 ps)) wh (some (.nd .lst (ps.map fun o => D.int (sharedM one o))))) G := by
  obtain ⟨_, _, or1⟩ := hone
  simp only [U_law_15, stL, dLc, diSeq, dSeq, dIfS, dTest, dOp, dName, dC, dRet, dLstF, dCons, dNil, dTup, dNext, dAsg, dLstM, gdName, dDrop, dM, dM0, dIf, dAnd, dOr, dNot, dAndV, dOrV, dNotV, dChain, dFz, dRetF, dRetN, dBreak, dCont, dCB, gdTup, gdCons, gdNil, gdSub, dNeg, dAug, dAugS, dFrz, dPar, dNoPart, dPart, dSlice, dYes, wipeD, i2, d1, d2, d3, startD, List.map_cons, List.map_nil, List.length_cons, List.length_nil, List.cons_append, List.nil_append, List.append_nil, List.getElem?_cons_zero, List.getElem?_cons_succ, List.getElem?_nil, List.replicate, List.set_cons_succ, List.set_cons_zero, Nat.reduceAdd, Nat.reduceSub, Nat.reduceLeDiff, run_eqi, run_nei, run_lt, run_le, run_gt, run_ge, run_addi, run_iaddi, true_and, and_true, Bool.not_eq_true, Bool.not_true, Bool.not_false, if_true, if_false, Bool.false_eq_true, ite_true, ite_false, reduceIte, reduceCtorEq, decide_eq_true_eq, decide_eq_false_iff_not]
  intro q hq
  refine ⟨fun i acc G' => acc = (ps.take i).map (fun o => D.int (sharedM one o)) ∧ G' = up G q (.lst acc), ⟨rfl, rfl⟩, ?_, ?_, ?_⟩
  · rintro i acc G' ⟨rfl, rfl⟩
    exact ⟨trivial, up_same⟩
  · rintro i d acc G' hd ⟨rfl, rfl⟩
    obtain ⟨o, hi, rfl⟩ := get_map hd
    obtain ⟨_, _, or⟩ := hok o (List.mem_of_getElem? hi)
    have hlt : i < 3 := Nat.lt_of_lt_of_le (List.getElem?_eq_some_iff.mp hi).1 h3
    simp only [dSeq, dIfS, dTest, dOp, dName, dC, dRet, dLstF, dCons, dNil, dTup, dNext, dAsg, dLstM, gdName, dDrop, dM, dM0, dIf, dAnd, dOr, dNot, dAndV, dOrV, dNotV, dChain, dFz, dRetF, dRetN, dBreak, dCont, dCB, gdTup, gdCons, gdNil, gdSub, dNeg, dAug, dAugS, dFrz, dPar, dNoPart, dPart, dSlice, dYes, wipeD, i2, d1, d2, d3, startD, List.map_cons, List.map_nil, List.length_cons, List.length_nil, List.cons_append, List.nil_append, List.append_nil, List.getElem?_cons_zero, List.getElem?_cons_succ, List.getElem?_nil, List.replicate, List.set_cons_succ, List.set_cons_zero, Nat.reduceAdd, Nat.reduceSub, Nat.reduceLeDiff, run_eqi, run_nei, run_lt, run_le, run_gt, run_ge, run_addi, run_iaddi, true_and, and_true, Bool.not_eq_true, Bool.not_true, Bool.not_false, if_true, if_false, Bool.false_eq_true, ite_true, ite_false, reduceIte, reduceCtorEq, decide_eq_true_eq, decide_eq_false_iff_not]
    refine ⟨one, o, rfl, rfl, by omega, by omega, small_line (by rw [List.length_map, List.length_take]; omega), up_same, ?_, by rw [up_up]⟩
    rw [take_snoc hi, List.map_append, shared_sym or1 or]
    rfl
  · rintro acc G' ⟨rfl, rfl⟩
    rw [List.length_map, List.take_length]
    simp only [up_same, dl_up hq, DO.tree, dSeq, dIfS, dTest, dOp, dName, dC, dRet, dLstF, dCons, dNil, dTup, dNext, dAsg, dLstM, gdName, dDrop, dM, dM0, dIf, dAnd, dOr, dNot, dAndV, dOrV, dNotV, dChain, dFz, dRetF, dRetN, dBreak, dCont, dCB, gdTup, gdCons, gdNil, gdSub, dNeg, dAug, dAugS, dFrz, dPar, dNoPart, dPart, dSlice, dYes, wipeD, i2, d1, d2, d3, startD, List.map_cons, List.map_nil, List.length_cons, List.length_nil, List.cons_append, List.nil_append, List.append_nil, List.getElem?_cons_zero, List.getElem?_cons_succ, List.getElem?_nil, List.replicate, List.set_cons_succ, List.set_cons_zero, Nat.reduceAdd, Nat.reduceSub, Nat.reduceLeDiff, run_eqi, run_nei, run_lt, run_le, run_gt, run_ge, run_addi, run_iaddi, true_and, and_true, Bool.not_eq_true, Bool.not_true, Bool.not_false, if_true, if_false, Bool.false_eq_true, ite_true, ite_false, reduceIte, reduceCtorEq, decide_eq_true_eq, decide_eq_false_iff_not]
    have cl : cleans (ps.map fun o => D.int (sharedM one o)) = true := cleans_map (fun _ => rfl) ps
    have dp : (py (.nd .lst (ps.map fun o => D.int (sharedM one o)))).depth ≤ 1 := depth_lst (B := 0) fun d hd => by
      obtain ⟨o, _, rfl⟩ := List.mem_map.mp hd
      exact Nat.le_of_eq (depth_int _)
    refine run_ne (show clean (.nd .lst _) = true by rw [clean]; exact cl) (show clean (.nd .lst _) = true by rw [clean]; exact cl) (Nat.le_trans dp (by decide)) (Nat.le_trans dp (by decide)) false (by constructor; exact (nomatch ·); intro h; exact (h rfl).elim) ?_
    simp only [dSeq, dIfS, dTest, dOp, dName, dC, dRet, dLstF, dCons, dNil, dTup, dNext, dAsg, dLstM, gdName, dDrop, dM, dM0, dIf, dAnd, dOr, dNot, dAndV, dOrV, dNotV, dChain, dFz, dRetF, dRetN, dBreak, dCont, dCB, gdTup, gdCons, gdNil, gdSub, dNeg, dAug, dAugS, dFrz, dPar, dNoPart, dPart, dSlice, dYes, wipeD, i2, d1, d2, d3, startD, List.map_cons, List.map_nil, List.length_cons, List.length_nil, List.cons_append, List.nil_append, List.append_nil, List.getElem?_cons_zero, List.getElem?_cons_succ, List.getElem?_nil, List.replicate, List.set_cons_succ, List.set_cons_zero, Nat.reduceAdd, Nat.reduceSub, Nat.reduceLeDiff, run_eqi, run_nei, run_lt, run_le, run_gt, run_ge, run_addi, run_iaddi, true_and, and_true, Bool.not_eq_true, Bool.not_true, Bool.not_false, if_true, if_false, Bool.false_eq_true, ite_true, ite_false, reduceIte, reduceCtorEq, decide_eq_true_eq, decide_eq_false_iff_not]
    exact k
theorem u16 {F : DEnds} {sc : D} {a pd : Addr} {m : Int} {G : DHp} {sh kn wh : Option D} {one : Int × Int × Int} {cells : List (Int × Int)} {ps : List (Int × Int × Int)} (hok : ∀ o ∈ ps, okP o) (h3 : ps.length ≤ 3) (hone : okP one)
    (k : F.nx (stM sc a cells ps m pd sh kn (some (e3 one)) (some (eL e3 ps)) wh (some (.nd .lst (ps.map fun o => D.int (sharedM one o))))) G) :
    U_law_16 F (stM sc a cells ps m pd sh kn (some (e3 one)) (some (eL e3 ps)) wh (some (.nd .lst (ps.map fun o => D.int (sharedM one o))))) G := by
  obtain ⟨_, _, or1⟩ := hone
  simp only [U_law_16, stL, dSeq, dIfS, dTest, dOp, dName, dC, dRet, dLstF, dCons, dNil, dTup, dNext, dAsg, dLstM, gdName, dDrop, dM, dM0, dIf, dAnd, dOr, dNot, dAndV, dOrV, dNotV, dChain, dFz, dRetF, dRetN, dBreak, dCont, dCB, gdTup, gdCons, gdNil, gdSub, dNeg, dAug, dAugS, dFrz, dPar, dNoPart, dPart, dSlice, dYes, wipeD, i2, d1, d2, d3, startD, List.map_cons, List.map_nil, List.length_cons, List.length_nil, List.cons_append, List.nil_append, List.append_nil, List.getElem?_cons_zero, List.getElem?_cons_succ, List.getElem?_nil, List.replicate, List.set_cons_succ, List.set_cons_zero, Nat.reduceAdd, Nat.reduceSub, Nat.reduceLeDiff, run_eqi, run_nei, run_lt, run_le, run_gt, run_ge, run_addi, run_iaddi, true_and, and_true, Bool.not_eq_true, Bool.not_true, Bool.not_false, if_true, if_false, Bool.false_eq_true, ite_true, ite_false, reduceIte, reduceCtorEq, decide_eq_true_eq, decide_eq_false_iff_not]
  refine ⟨one, ps, m, rfl, rfl, rfl, by omega, by omega, fun o ho => by have := (hok o ho).2.2; omega, ?_⟩
  refine ⟨ps.map fun o => (sharedM one o : Int), by show some _ = some _; rw [List.map_map]; rfl, ?_⟩
  simp only [e3, dSeq, dIfS, dTest, dOp, dName, dC, dRet, dLstF, dCons, dNil, dTup, dNext, dAsg, dLstM, gdName, dDrop, dM, dM0, dIf, dAnd, dOr, dNot, dAndV, dOrV, dNotV, dChain, dFz, dRetF, dRetN, dBreak, dCont, dCB, gdTup, gdCons, gdNil, gdSub, dNeg, dAug, dAugS, dFrz, dPar, dNoPart, dPart, dSlice, dYes, wipeD, i2, d1, d2, d3, startD, List.map_cons, List.map_nil, List.length_cons, List.length_nil, List.cons_append, List.nil_append, List.append_nil, List.getElem?_cons_zero, List.getElem?_cons_succ, List.getElem?_nil, List.replicate, List.set_cons_succ, List.set_cons_zero, Nat.reduceAdd, Nat.reduceSub, Nat.reduceLeDiff, run_eqi, run_nei, run_lt, run_le, run_gt, run_ge, run_addi, run_iaddi, true_and, and_true, Bool.not_eq_true, Bool.not_true, Bool.not_false, if_true, if_false, Bool.false_eq_true, ite_true, ite_false, reduceIte, reduceCtorEq, decide_eq_true_eq, decide_eq_false_iff_not]
  refine run_ix (by decide) rfl ⟨one.2.2, rfl, by omega, by omega, ?_⟩
  simp only [run_len_eL, dSeq, dIfS, dTest, dOp, dName, dC, dRet, dLstF, dCons, dNil, dTup, dNext, dAsg, dLstM, gdName, dDrop, dM, dM0, dIf, dAnd, dOr, dNot, dAndV, dOrV, dNotV, dChain, dFz, dRetF, dRetN, dBreak, dCont, dCB, gdTup, gdCons, gdNil, gdSub, dNeg, dAug, dAugS, dFrz, dPar, dNoPart, dPart, dSlice, dYes, wipeD, i2, d1, d2, d3, startD, List.map_cons, List.map_nil, List.length_cons, List.length_nil, List.cons_append, List.nil_append, List.append_nil, List.getElem?_cons_zero, List.getElem?_cons_succ, List.getElem?_nil, List.replicate, List.set_cons_succ, List.set_cons_zero, Nat.reduceAdd, Nat.reduceSub, Nat.reduceLeDiff, run_eqi, run_nei, run_lt, run_le, run_gt, run_ge, run_addi, run_iaddi, true_and, and_true, Bool.not_eq_true, Bool.not_true, Bool.not_false, if_true, if_false, Bool.false_eq_true, ite_true, ite_false, reduceIte, reduceCtorEq, decide_eq_true_eq, decide_eq_false_iff_not]
  have e : sharedSum one ps = (ps.map fun o => (sharedM one o : Int)).sum := by
    unfold sharedSum
    congr 1
    exact List.map_congr_left fun o ho => by rw [shared_sym or1 (hok o ho).2.2]
  refine run_neb ?_
  rw [e]
  simp only [bne_self_eq_false, dSeq, dIfS, dTest, dOp, dName, dC, dRet, dLstF, dCons, dNil, dTup, dNext, dAsg, dLstM, gdName, dDrop, dM, dM0, dIf, dAnd, dOr, dNot, dAndV, dOrV, dNotV, dChain, dFz, dRetF, dRetN, dBreak, dCont, dCB, gdTup, gdCons, gdNil, gdSub, dNeg, dAug, dAugS, dFrz, dPar, dNoPart, dPart, dSlice, dYes, wipeD, i2, d1, d2, d3, startD, List.map_cons, List.map_nil, List.length_cons, List.length_nil, List.cons_append, List.nil_append, List.append_nil, List.getElem?_cons_zero, List.getElem?_cons_succ, List.getElem?_nil, List.replicate, List.set_cons_succ, List.set_cons_zero, Nat.reduceAdd, Nat.reduceSub, Nat.reduceLeDiff, run_eqi, run_nei, run_lt, run_le, run_gt, run_ge, run_addi, run_iaddi, true_and, and_true, Bool.not_eq_true, Bool.not_true, Bool.not_false, if_true, if_false, Bool.false_eq_true, ite_true, ite_false, reduceIte, reduceCtorEq, decide_eq_true_eq, decide_eq_false_iff_not]
  exact k
theorem u17 {F : DEnds} {sc : D} {a pd : Addr} {m : Int} {G : DHp} {sh kn shr : Option D} {one : Int × Int × Int} {cells cs : List (Int × Int)} {ps : List (Int × Int × Int)} (hok : ∀ o ∈ ps, okP o) (h3 : ps.length ≤ 3) (hone : okP one) (hw : ∀ c ∈ cs, ∃ o ∈ ps, c ∈ ringAt o) (hlen : cs.length ≤ 147)
    (k : F.rt (.bl true) G) : U_law_17 F (stM sc a cells ps m pd sh kn (some (e3 one)) (some (eL e3 ps)) (some (eL e2 cs)) shr) G := by
  obtain ⟨_, _, or1⟩ := hone
  simp only [U_law_17, stL, dSeq, dIfS, dTest, dOp, dName, dC, dRet, dLstF, dCons, dNil, dTup, dNext, dAsg, dLstM, gdName, dDrop, dM, dM0, dIf, dAnd, dOr, dNot, dAndV, dOrV, dNotV, dChain, dFz, dRetF, dRetN, dBreak, dCont, dCB, gdTup, gdCons, gdNil, gdSub, dNeg, dAug, dAugS, dFrz, dPar, dNoPart, dPart, dSlice, dYes, wipeD, i2, d1, d2, d3, startD, List.map_cons, List.map_nil, List.length_cons, List.length_nil, List.cons_append, List.nil_append, List.append_nil, List.getElem?_cons_zero, List.getElem?_cons_succ, List.getElem?_nil, List.replicate, List.set_cons_succ, List.set_cons_zero, Nat.reduceAdd, Nat.reduceSub, Nat.reduceLeDiff, run_eqi, run_nei, run_lt, run_le, run_gt, run_ge, run_addi, run_iaddi, true_and, and_true, Bool.not_eq_true, Bool.not_true, Bool.not_false, if_true, if_false, Bool.false_eq_true, ite_true, ite_false, reduceIte, reduceCtorEq, decide_eq_true_eq, decide_eq_false_iff_not]
  refine ⟨one, ps, m, rfl, rfl, rfl, by omega, by omega, fun o ho => by have := (hok o ho).2.2; omega, ?_⟩
  simp only [dSeq, dIfS, dTest, dOp, dName, dC, dRet, dLstF, dCons, dNil, dTup, dNext, dAsg, dLstM, gdName, dDrop, dM, dM0, dIf, dAnd, dOr, dNot, dAndV, dOrV, dNotV, dChain, dFz, dRetF, dRetN, dBreak, dCont, dCB, gdTup, gdCons, gdNil, gdSub, dNeg, dAug, dAugS, dFrz, dPar, dNoPart, dPart, dSlice, dYes, wipeD, i2, d1, d2, d3, startD, List.map_cons, List.map_nil, List.length_cons, List.length_nil, List.cons_append, List.nil_append, List.append_nil, List.getElem?_cons_zero, List.getElem?_cons_succ, List.getElem?_nil, List.replicate, List.set_cons_succ, List.set_cons_zero, Nat.reduceAdd, Nat.reduceSub, Nat.reduceLeDiff, run_eqi, run_nei, run_lt, run_le, run_gt, run_ge, run_addi, run_iaddi, true_and, and_true, Bool.not_eq_true, Bool.not_true, Bool.not_false, if_true, if_false, Bool.false_eq_true, ite_true, ite_false, reduceIte, reduceCtorEq, decide_eq_true_eq, decide_eq_false_iff_not]
  by_cases z : sharedSum one ps < ((rimL one.2.2).length : Int) - m
  · simp only [decide_eq_true z, dSeq, dIfS, dTest, dOp, dName, dC, dRet, dLstF, dCons, dNil, dTup, dNext, dAsg, dLstM, gdName, dDrop, dM, dM0, dIf, dAnd, dOr, dNot, dAndV, dOrV, dNotV, dChain, dFz, dRetF, dRetN, dBreak, dCont, dCB, gdTup, gdCons, gdNil, gdSub, dNeg, dAug, dAugS, dFrz, dPar, dNoPart, dPart, dSlice, dYes, wipeD, i2, d1, d2, d3, startD, List.map_cons, List.map_nil, List.length_cons, List.length_nil, List.cons_append, List.nil_append, List.append_nil, List.getElem?_cons_zero, List.getElem?_cons_succ, List.getElem?_nil, List.replicate, List.set_cons_succ, List.set_cons_zero, Nat.reduceAdd, Nat.reduceSub, Nat.reduceLeDiff, run_eqi, run_nei, run_lt, run_le, run_gt, run_ge, run_addi, run_iaddi, true_and, and_true, Bool.not_eq_true, Bool.not_true, Bool.not_false, if_true, if_false, Bool.false_eq_true, ite_true, ite_false, reduceIte, reduceCtorEq, decide_eq_true_eq, decide_eq_false_iff_not]
    refine ⟨cs, rfl, by omega, fun ys nd hy => ?_⟩
    have hyl : ys.length ≤ cs.length := len_sub nd fun y h => (hy y).mp h
    refine ⟨ys, [1, 2, 3], m, rfl, rfl, rfl, by omega, by decide, fun r hr => by have := of123 hr; omega, fun zs znd hz => ?_⟩
    have hno : one ∉ zs := fun h => by
      obtain ⟨_, hle⟩ := (hz one).mp h
      rw [cnt_visits nd or1] at hle
      have h1 := sum_ge (one := one) (cells := ys) (others := ps) fun c hc => hw c ((hy c).mp hc)
      have e : sharedSum one ps = (ps.map fun o => (sharedM one o : Int)).sum := by
        unfold sharedSum
        congr 1
        exact List.map_congr_left fun o ho => by rw [shared_sym or1 (hok o ho).2.2]
      omega
    refine run_in (ds := (srtT e3 zs).map e3) (.inr rfl) (clean_e3 one) (cleans_map clean_e3 _) (Nat.le_trans (depth_e3 one) (by decide)) false ?_ ?_
    · constructor
      · exact (nomatch ·)
      · intro h
        obtain ⟨o, ho, e⟩ := List.mem_map.mp h
        have := e3_inj.mp e
        subst this
        exact (hno ((srtT_perm e3 zs).mem_iff.mp ho)).elim
    · exact k
  · simp only [decide_eq_false z, dSeq, dIfS, dTest, dOp, dName, dC, dRet, dLstF, dCons, dNil, dTup, dNext, dAsg, dLstM, gdName, dDrop, dM, dM0, dIf, dAnd, dOr, dNot, dAndV, dOrV, dNotV, dChain, dFz, dRetF, dRetN, dBreak, dCont, dCB, gdTup, gdCons, gdNil, gdSub, dNeg, dAug, dAugS, dFrz, dPar, dNoPart, dPart, dSlice, dYes, wipeD, i2, d1, d2, d3, startD, List.map_cons, List.map_nil, List.length_cons, List.length_nil, List.cons_append, List.nil_append, List.append_nil, List.getElem?_cons_zero, List.getElem?_cons_succ, List.getElem?_nil, List.replicate, List.set_cons_succ, List.set_cons_zero, Nat.reduceAdd, Nat.reduceSub, Nat.reduceLeDiff, run_eqi, run_nei, run_lt, run_le, run_gt, run_ge, run_addi, run_iaddi, true_and, and_true, Bool.not_eq_true, Bool.not_true, Bool.not_false, if_true, if_false, Bool.false_eq_true, ite_true, ite_false, reduceIte, reduceCtorEq, decide_eq_true_eq, decide_eq_false_iff_not]
    exact k
end M
namespace M
open PySem PySem.Spec PyProof.Rows L2 DL

def sp_law : DRn := spLaw
theorem len_law : ∀ ds G Q, sp_law ds G Q → ds.length = 1 := fun ds G Q h => by
  match ds, h with
  | [_], _ => rfl
theorem sq {t u : DTS} {F : DEnds} {η : DSt} {G : DHp} (h : t { F with nx := u F } η G) : dSeq t u F η G := h
theorem u3' {F : DEnds} {sc : D} {a : Addr} {ns : List Int} {c : Int} {G : DHp} (k : ∀ p, a ≠ p → F.nx (stL sc a (some (.ref p)) none none none none none none none none none none) (Gw (up G p (.lst [])) a ns c)) : U_law_3 F (stL sc a none none none none none none none none none none none) (Gw G a ns c) :=
  u3 fun p hp => by
    obtain ⟨e, hap⟩ := gw_new (o := .lst []) hp
    rw [e]
    exact k p hap
theorem run_law : ∀ ds G Q, sp_law ds G Q → T_law { nx := fun _ G' => Q .non G', rt := Q } (startD N_law ds) G := fun ds G Q h => by
  match ds, h with
  | [_], ⟨ns, rfl, hl, hG, q⟩ =>
    simp only [T_law, U_law_0, N_law, dSeq, dIfS, dTest, dOp, dName, dC, dRet, dLstF, dCons, dNil, dTup, dNext, dAsg, dLstM, gdName, dDrop, dM, dM0, dIf, dAnd, dOr, dNot, dAndV, dOrV, dNotV, dChain, dFz, dRetF, dRetN, dBreak, dCont, dCB, gdTup, gdCons, gdNil, gdSub, dNeg, dAug, dAugS, dFrz, dPar, dNoPart, dPart, dSlice, dYes, wipeD, i2, d1, d2, d3, startD, List.map_cons, List.map_nil, List.length_cons, List.length_nil, List.cons_append, List.nil_append, List.append_nil, List.getElem?_cons_zero, List.getElem?_cons_succ, List.getElem?_nil, List.replicate, List.set_cons_succ, List.set_cons_zero, Nat.reduceAdd, Nat.reduceSub, Nat.reduceLeDiff, run_eqi, run_nei, run_lt, run_le, run_gt, run_ge, run_addi, run_iaddi, true_and, and_true, Bool.not_eq_true, Bool.not_true, Bool.not_false, if_true, if_false, Bool.false_eq_true, ite_true, ite_false, reduceIte, reduceCtorEq, decide_eq_true_eq, decide_eq_false_iff_not]
    intro a ha
    show T_law_1 _ (stL (.nd .scr (ns.map .int)) a none none none none none none none none none none none) (Gw G a ns 0)
    unfold T_law_1
    refine sq (u1 ?_)
    dsimp only
    unfold T_law_2
    refine sq (u2 ?_)
    dsimp only
    unfold T_law_3
    refine sq (u3' fun p1 hap => ?_)
    dsimp only
    unfold T_law_4
    refine sq (u4 hl fun pp c ps ok h3 happ hpp => ?_)
    dsimp only
    simp only [stL, gw_at happ, gw_dl happ hpp, DO.tree, dSeq, dIfS, dTest, dOp, dName, dC, dRet, dLstF, dCons, dNil, dTup, dNext, dAsg, dLstM, gdName, dDrop, dM, dM0, dIf, dAnd, dOr, dNot, dAndV, dOrV, dNotV, dChain, dFz, dRetF, dRetN, dBreak, dCont, dCB, gdTup, gdCons, gdNil, gdSub, dNeg, dAug, dAugS, dFrz, dPar, dNoPart, dPart, dSlice, dYes, wipeD, i2, d1, d2, d3, startD, List.map_cons, List.map_nil, List.length_cons, List.length_nil, List.cons_append, List.nil_append, List.append_nil, List.getElem?_cons_zero, List.getElem?_cons_succ, List.getElem?_nil, List.replicate, List.set_cons_succ, List.set_cons_zero, Nat.reduceAdd, Nat.reduceSub, Nat.reduceLeDiff, run_eqi, run_nei, run_lt, run_le, run_gt, run_ge, run_addi, run_iaddi, true_and, and_true, Bool.not_eq_true, Bool.not_true, Bool.not_false, if_true, if_false, Bool.false_eq_true, ite_true, ite_false, reduceIte, reduceCtorEq, decide_eq_true_eq, decide_eq_false_iff_not]
    show T_law_5 _ (stL (.nd .scr (ns.map .int)) a (some (.ref p1)) (some (eL e3 ps)) none none none none none none none none none) _
    unfold T_law_5
    refine sq (u5 hl ok h3 hap fun cs c okc hcl => ?_)
    dsimp only
    unfold T_law_6
    refine sq (u6 hl okc hcl hap fun cells c okc nd hcl => ?_)
    dsimp only
    unfold T_law_7
    refine sq (u7 hl hcl fun pd c m sh hapd hm0 hm4 hsh => ?_)
    dsimp only
    unfold T_law_8
    refine sq (u8 hcl fun kvs cn => ?_)
    dsimp only
    unfold T_law_9
    refine sq (u9 nd hapd hsh cn ?_)
    dsimp only
    unfold T_law_10
    refine sq (u10 nd okc hcl (by omega) (gw_at hapd) ?_)
    dsimp only
    unfold T_law_11
    refine sq (u11 hl fun one c hone => ?_)
    dsimp only
    unfold T_law_12
    refine sq (u12 fun pw hapw => ?_)
    dsimp only
    unfold T_law_13
    refine sq (u13 ok h3 hapw fun ws hws hwl => ?_)
    dsimp only
    unfold T_law_14
    refine sq (u14 ok h3 hone fun qq haq hgq => ?_)
    dsimp only
    simp only [stL, gw_at haq, gw_dl haq hgq, DO.tree, dSeq, dIfS, dTest, dOp, dName, dC, dRet, dLstF, dCons, dNil, dTup, dNext, dAsg, dLstM, gdName, dDrop, dM, dM0, dIf, dAnd, dOr, dNot, dAndV, dOrV, dNotV, dChain, dFz, dRetF, dRetN, dBreak, dCont, dCB, gdTup, gdCons, gdNil, gdSub, dNeg, dAug, dAugS, dFrz, dPar, dNoPart, dPart, dSlice, dYes, wipeD, i2, d1, d2, d3, startD, List.map_cons, List.map_nil, List.length_cons, List.length_nil, List.cons_append, List.nil_append, List.append_nil, List.getElem?_cons_zero, List.getElem?_cons_succ, List.getElem?_nil, List.replicate, List.set_cons_succ, List.set_cons_zero, Nat.reduceAdd, Nat.reduceSub, Nat.reduceLeDiff, run_eqi, run_nei, run_lt, run_le, run_gt, run_ge, run_addi, run_iaddi, true_and, and_true, Bool.not_eq_true, Bool.not_true, Bool.not_false, if_true, if_false, Bool.false_eq_true, ite_true, ite_false, reduceIte, reduceCtorEq, decide_eq_true_eq, decide_eq_false_iff_not]
    show T_law_15 _ (stM (.nd .scr (ns.map .int)) a cells ps m pd (some (eD k2 .bl sh)) (some (eD k3 .int kvs)) (some (e3 one)) (some (eL e3 ps)) (some (.ref pw)) (some (.nd .lst (ps.map fun o => D.int (sharedM one o))))) _
    unfold T_law_15
    refine sq (u15 ok h3 hone ?_)
    dsimp only
    unfold T_law_16
    refine sq (u16 ok h3 hone ?_)
    dsimp only
    unfold T_law_17
    simp only [stL, gw_at hapw, DO.tree, dSeq, dIfS, dTest, dOp, dName, dC, dRet, dLstF, dCons, dNil, dTup, dNext, dAsg, dLstM, gdName, dDrop, dM, dM0, dIf, dAnd, dOr, dNot, dAndV, dOrV, dNotV, dChain, dFz, dRetF, dRetN, dBreak, dCont, dCB, gdTup, gdCons, gdNil, gdSub, dNeg, dAug, dAugS, dFrz, dPar, dNoPart, dPart, dSlice, dYes, wipeD, i2, d1, d2, d3, startD, List.map_cons, List.map_nil, List.length_cons, List.length_nil, List.cons_append, List.nil_append, List.append_nil, List.getElem?_cons_zero, List.getElem?_cons_succ, List.getElem?_nil, List.replicate, List.set_cons_succ, List.set_cons_zero, Nat.reduceAdd, Nat.reduceSub, Nat.reduceLeDiff, run_eqi, run_nei, run_lt, run_le, run_gt, run_ge, run_addi, run_iaddi, true_and, and_true, Bool.not_eq_true, Bool.not_true, Bool.not_false, if_true, if_false, Bool.false_eq_true, ite_true, ite_false, reduceIte, reduceCtorEq, decide_eq_true_eq, decide_eq_false_iff_not]
    show U_law_17 _ (stM (.nd .scr (ns.map .int)) a cells ps m pd (some (eD k2 .bl sh)) (some (eD k3 .int kvs)) (some (e3 one)) (some (eL e3 ps)) (some (eL e2 ws)) (some (.nd .lst (ps.map fun o => D.int (sharedM one o))))) _
    exact u17 ok h3 hone hws hwl (q _)
end M
namespace M
open PySem PySem.Spec PyProof.Rows L2 DL
def top (i : Nat) : Stmt := PySem.Challenge.pw_moonfall_k60_whole_rims.main.body.getD i (.Pass ⟨0, 0, 0, 0⟩)
abbrev s_rim : Stmt := top 2
theorem sc_rim : FnScope N_rim ["radius"] (defScope s_rim) := ⟨rfl, rfl, rfl, by decide +kernel, rfl, by decide +kernel, by decide +kernel⟩
abbrev s_radius_of : Stmt := top 3
theorem sc_radius_of : FnScope N_radius_of ["x", "y"] (defScope s_radius_of) := ⟨rfl, rfl, rfl, by decide +kernel, rfl, by decide +kernel, by decide +kernel⟩
abbrev s_votes : Stmt := top 4
theorem sc_votes : FnScope N_votes ["cells", "radii"] (defScope s_votes) := ⟨rfl, rfl, rfl, by decide +kernel, rfl, by decide +kernel, by decide +kernel⟩
abbrev s_rims_in : Stmt := top 5
theorem sc_rims_in : FnScope N_rims_in ["cells", "radii", "missing"] (defScope s_rims_in) := ⟨rfl, rfl, rfl, by decide +kernel, rfl, by decide +kernel, by decide +kernel⟩
abbrev s_shared_cells : Stmt := top 6
theorem sc_shared_cells : FnScope N_shared_cells ["one", "other"] (defScope s_shared_cells) := ⟨rfl, rfl, rfl, by decide +kernel, rfl, by decide +kernel, by decide +kernel⟩
abbrev s_is_barred : Stmt := top 7
theorem sc_is_barred : FnScope N_is_barred ["place", "others", "missing"] (defScope s_is_barred) := ⟨rfl, rfl, rfl, by decide +kernel, rfl, by decide +kernel, by decide +kernel⟩
abbrev s__law_number : Stmt := top 26
theorem sc__law_number : FnScope N__law_number ["script", "index"] (defScope s__law_number) := ⟨rfl, rfl, rfl, by decide +kernel, rfl, by decide +kernel, by decide +kernel⟩
abbrev s__law_take : Stmt := top 27
theorem sc__law_take : FnScope N__law_take ["draw", "many"] (defScope s__law_take) := ⟨rfl, rfl, rfl, by decide +kernel, rfl, by decide +kernel, by decide +kernel⟩
abbrev s__law_unlike : Stmt := top 29
theorem sc__law_unlike : FnScope N__law_unlike ["items"] (defScope s__law_unlike) := ⟨rfl, rfl, rfl, by decide +kernel, rfl, by decide +kernel, by decide +kernel⟩
abbrev s_law : Stmt := top 37
theorem sc_law : FnScope N_law ["script"] (defScope s_law) := ⟨rfl, rfl, rfl, by decide +kernel, rfl, by decide +kernel, by decide +kernel⟩
theorem bt_range : bootBuiltins ("range" : Str) = some (.type "range") := by first | rfl | decide +kernel
theorem bt_len : bootBuiltins ("len" : Str) = some (.builtin "len") := by first | rfl | decide +kernel
theorem bt_sorted : bootBuiltins ("sorted" : Str) = some (.builtin "sorted") := by first | rfl | decide +kernel
theorem bt_tuple : bootBuiltins ("tuple" : Str) = some (.type "tuple") := by first | rfl | decide +kernel
theorem bt_sum : bootBuiltins ("sum" : Str) = some (.builtin "sum") := by first | rfl | decide +kernel
theorem bt_int : bootBuiltins ("int" : Str) = some (.type "int") := by first | rfl | decide +kernel
theorem bt_all : bootBuiltins ("all" : Str) = some (.builtin "all") := by first | rfl | decide +kernel
theorem bt_dict : bootBuiltins ("dict" : Str) = some (.type "dict") := by first | rfl | decide +kernel
structure Txt (K : PySem.W.Frag) (mg : Str → Option Value) where
  a_rim : Addr
  d_rim : FuncData
  F_rim : Fun K "rim" "rim" s_rim a_rim d_rim
  m_rim : mg "rim" = some (.ref a_rim)
  bi_rim : Binds K d_rim ["radius"] []
  a_radius_of : Addr
  d_radius_of : FuncData
  F_radius_of : Fun K "radius_of" "radius_of" s_radius_of a_radius_of d_radius_of
  m_radius_of : mg "radius_of" = some (.ref a_radius_of)
  bi_radius_of : Binds K d_radius_of ["x", "y"] []
  a_votes : Addr
  d_votes : FuncData
  F_votes : Fun K "votes" "votes" s_votes a_votes d_votes
  m_votes : mg "votes" = some (.ref a_votes)
  bi_votes : Binds K d_votes ["cells", "radii"] []
  a_rims_in : Addr
  d_rims_in : FuncData
  F_rims_in : Fun K "rims_in" "rims_in" s_rims_in a_rims_in d_rims_in
  m_rims_in : mg "rims_in" = some (.ref a_rims_in)
  bi_rims_in : Binds K d_rims_in ["cells", "radii", "missing"] []
  a_shared_cells : Addr
  d_shared_cells : FuncData
  F_shared_cells : Fun K "shared_cells" "shared_cells" s_shared_cells a_shared_cells d_shared_cells
  m_shared_cells : mg "shared_cells" = some (.ref a_shared_cells)
  bi_shared_cells : Binds K d_shared_cells ["one", "other"] []
  a_is_barred : Addr
  d_is_barred : FuncData
  F_is_barred : Fun K "is_barred" "is_barred" s_is_barred a_is_barred d_is_barred
  m_is_barred : mg "is_barred" = some (.ref a_is_barred)
  bi_is_barred : Binds K d_is_barred ["place", "others", "missing"] []
  a__law_number : Addr
  d__law_number : FuncData
  F__law_number : Fun K "_law_number" "_law_number" s__law_number a__law_number d__law_number
  m__law_number : mg "_law_number" = some (.ref a__law_number)
  bi__law_number : Binds K d__law_number ["script", "index"] []
  a__law_take : Addr
  d__law_take : FuncData
  F__law_take : Fun K "_law_take" "_law_take" s__law_take a__law_take d__law_take
  m__law_take : mg "_law_take" = some (.ref a__law_take)
  bi__law_take : Binds K d__law_take ["draw", "many"] []
  a__law_unlike : Addr
  d__law_unlike : FuncData
  F__law_unlike : Fun K "_law_unlike" "_law_unlike" s__law_unlike a__law_unlike d__law_unlike
  m__law_unlike : mg "_law_unlike" = some (.ref a__law_unlike)
  bi__law_unlike : Binds K d__law_unlike ["items"] []
  a_law : Addr
  d_law : FuncData
  F_law : Fun K "law" "law" s_law a_law d_law
  m_law : mg "law" = some (.ref a_law)
  bi_law : Binds K d_law ["script"] []
  b_range : mg "range" = none
  b_len : mg "len" = none
  b_sorted : mg "sorted" = none
  b_tuple : mg "tuple" = none
  b_sum : mg "sum" = none
  b_int : mg "int" = none
  b_all : mg "all" = none
  b_dict : mg "dict" = none
section
variable {P : Program} {w : World} {K : PySem.W.Frag} {mg : Str → Option Value} {base : Heap}
theorem pr_rim (T : Txt K mg) (cdv : Value) (A : Around) (outer : List Env) (s : Shared) (H : Hp) (E : XK) (hr : Room 0 (A.deeper (envOfC "rim" (defScope s_rim) s.heap.objs.size T.a_rim cdv))) :
    PSsD (cxOf CX0 P w K mg base N_rim "rim" (defScope s_rim) T.a_rim cdv A outer s H E).nox (defBody s_rim) T_rim :=
  (pssd_cons (psd_if (ptd_cmp (od_eq hr.units) (ped_name 0) ped_int (nomark _))
      (pssd_one (psd_ret (ped_lstF (pad_cons (ped_tup (pad_cons ped_int (pad_cons ped_int pad_nil))) pad_nil))))
      pssd_nil)
      (pssd_cons (psd_set (i := 1) sc_rim.nd rfl (Or.inl rfl) (ped_lstM pad_nil))
      (pssd_cons (psd_for PassesOwn.never rfl (pid_range2 T.b_range (pad_cons (ped_op od_sub ped_int (ped_name 0)) (pad_cons (ped_op od_add (ped_name 0) ped_int) pad_nil))) (pgd_name (i := 2) sc_rim.nd rfl (Or.inl rfl))
      (pssd_one (psd_for PassesOwn.never rfl (pid_range2 T.b_range (pad_cons (ped_op od_sub ped_int (ped_name 0)) (pad_cons (ped_op od_add (ped_name 0) ped_int) pad_nil))) (pgd_name (i := 3) sc_rim.nd rfl (Or.inl rfl))
      (pssd_one (psd_if (ptd_chain (od_lt hr.units) (od_le hr.units) (ped_op od_sub (ped_op od_mul (ped_name 0) (ped_name 0)) (ped_name 0)) (ped_op od_add (ped_op od_mul (ped_name 2) (ped_name 2)) (ped_op od_mul (ped_name 3) (ped_name 3))) (ped_op od_add (ped_op od_mul (ped_name 0) (ped_name 0)) (ped_name 0)))
      (pssd_one (psd_expr (ped_m PySem.F.plainAttrs_list PySem.F.slot_list_append PySem.F.type_list_append md_append (ped_name 1) (pad_cons (ped_tup (pad_cons (ped_name 2) (pad_cons (ped_name 3) pad_nil))) pad_nil))))
      pssd_nil)))))
      (pssd_one (psd_retF (ped_name 1))))))
theorem ok_rim (T : Txt K mg) : FnD P w K mg base 1 T.a_rim T.d_rim ["radius"] sp_rim :=
  fn_d T.F_rim sc_rim len_rim (pr_rim T) run_rim
theorem pr_radius_of (T : Txt K mg) (cdv : Value) (A : Around) (outer : List Env) (s : Shared) (H : Hp) (E : XK) (hr : Room 0 (A.deeper (envOfC "radius_of" (defScope s_radius_of) s.heap.objs.size T.a_radius_of cdv))) :
    PSsD (cxOf CX0 P w K mg base N_radius_of "radius_of" (defScope s_radius_of) T.a_radius_of cdv A outer s H E).nox (defBody s_radius_of) T_radius_of :=
  (pssd_cons (psd_set (i := 2) sc_radius_of.nd rfl (Or.inl rfl) ped_int)
      (pssd_cons (psd_while PassesOwn.never (ptd_cmp (od_gt hr.units) (ped_op od_add (ped_op od_mul (ped_name 0) (ped_name 0)) (ped_op od_mul (ped_name 1) (ped_name 1))) (ped_op od_add (ped_op od_mul (ped_name 2) (ped_name 2)) (ped_name 2)) (nomark _))
      (pssd_one (psd_set (i := 2) sc_radius_of.nd rfl (Or.inl rfl) (ped_op od_add (ped_name 2) ped_int))))
      (pssd_one (psd_ret (ped_name 2)))))
theorem ok_radius_of (T : Txt K mg) : FnD P w K mg base 1 T.a_radius_of T.d_radius_of ["x", "y"] sp_radius_of :=
  fn_d T.F_radius_of sc_radius_of len_radius_of (pr_radius_of T) run_radius_of
theorem pr_votes (T : Txt K mg) (h_rim : FnD P w K mg base 1 T.a_rim T.d_rim ["radius"] sp_rim) (cdv : Value) (A : Around) (outer : List Env) (s : Shared) (H : Hp) (E : XK) (hr : Room 1 (A.deeper (envOfC "votes" (defScope s_votes) s.heap.objs.size T.a_votes cdv))) :
    PSsD (cxOf CX0 P w K mg base N_votes "votes" (defScope s_votes) T.a_votes cdv A outer s H E).nox (defBody s_votes) T_votes :=
  (pssd_cons (psd_set (i := 2) sc_votes.nd rfl (Or.inl rfl) ped_newN)
      (pssd_cons (psd_for PassesOwn.never rfl (pid_seq (ped_name 1)) (pgd_name (i := 3) sc_votes.nd rfl (Or.inl rfl))
      (pssd_one (psd_for PassesOwn.never rfl (pid_seq (ped_call h_rim (hr.mono (by decide)) T.m_rim T.F_rim.kp T.bi_rim (pad_cons (ped_name 3) pad_nil))) (pgd_tup rfl (pgsd_cons (pgd_name (i := 4) sc_votes.nd rfl (Or.inl rfl)) (pgsd_cons (pgd_name (i := 5) sc_votes.nd rfl (Or.inl rfl)) pgsd_nil)))
      (pssd_one (psd_for PassesOwn.never rfl (pid_seq (ped_name 0)) (pgd_tup rfl (pgsd_cons (pgd_name (i := 6) sc_votes.nd rfl (Or.inl rfl)) (pgsd_cons (pgd_name (i := 7) sc_votes.nd rfl (Or.inl rfl)) pgsd_nil)))
      (pssd_cons (psd_set (i := 8) sc_votes.nd rfl (Or.inl rfl) (ped_tup (pad_cons (ped_op od_sub (ped_name 6) (ped_name 4)) (pad_cons (ped_op od_sub (ped_name 7) (ped_name 5)) (pad_cons (ped_name 3) pad_nil)))))
      (pssd_one (psd_asg (ped_op od_add (ped_m PySem.F.plainAttrs_dict PySem.F.slot_dict_get PySem.F.type_dict_get (md_get2 hr.units) (ped_name 2) (pad_cons (ped_name 8) (pad_cons ped_int pad_nil))) ped_int) (pgd_sub (ped_name 2) (ped_name 8) (pset_d hr.units))))))))))
      (pssd_one (psd_retF (ped_name 2)))))
theorem ok_votes (T : Txt K mg) (h_rim : FnD P w K mg base 1 T.a_rim T.d_rim ["radius"] sp_rim) : FnD P w K mg base 2 T.a_votes T.d_votes ["cells", "radii"] sp_votes :=
  fn_d T.F_votes sc_votes len_votes (pr_votes T h_rim) run_votes
theorem pr_rims_in (T : Txt K mg) (h_rim : FnD P w K mg base 1 T.a_rim T.d_rim ["radius"] sp_rim) (h_votes : FnD P w K mg base 2 T.a_votes T.d_votes ["cells", "radii"] sp_votes) (cdv : Value) (A : Around) (outer : List Env) (s : Shared) (H : Hp) (E : XK) (hr : Room 2 (A.deeper (envOfC "rims_in" (defScope s_rims_in) s.heap.objs.size T.a_rims_in cdv))) :
    PSsD (cxOf CX0 P w K mg base N_rims_in "rims_in" (defScope s_rims_in) T.a_rims_in cdv A outer s H E).nox (defBody s_rims_in) T_rims_in :=
  (pssd_cons (psd_set (i := 3) sc_rims_in.nd rfl (Or.inl rfl) (ped_lstM pad_nil))
      (pssd_cons (psd_for PassesOwn.never rfl (pid_items (ped_call h_votes (hr.mono (by decide)) T.m_votes T.F_votes.kp T.bi_votes (pad_cons (ped_name 0) (pad_cons (ped_name 1) pad_nil)))) (pgd_tup rfl (pgsd_cons (pgd_name (i := 4) sc_rims_in.nd rfl (Or.inl rfl)) (pgsd_cons (pgd_name (i := 5) sc_rims_in.nd rfl (Or.inl rfl)) pgsd_nil)))
      (pssd_one (psd_if (ptd_cmp (od_ge hr.units) (ped_name 5) (ped_op od_sub (ped_callB cd_len T.b_len bt_len (pad_cons (ped_call h_rim (hr.mono (by decide)) T.m_rim T.F_rim.kp T.bi_rim (pad_cons (ped_ix (ixd hr.units) (ped_name 4) ped_int) pad_nil)) pad_nil)) (ped_name 2)) (nomark _))
      (pssd_one (psd_expr (ped_m PySem.F.plainAttrs_list PySem.F.slot_list_append PySem.F.type_list_append md_append (ped_name 3) (pad_cons (ped_name 4) pad_nil))))
      pssd_nil)))
      (pssd_frz 3 (pssd_one (psd_ret (ped_callTy cd_tuple T.b_tuple bt_tuple (pad_cons (ped_fz (ped_callB (cd_sorted hr.units) T.b_sorted bt_sorted (pad_cons (ped_name 3) pad_nil))) pad_nil)))))))
theorem ok_rims_in (T : Txt K mg) (h_rim : FnD P w K mg base 1 T.a_rim T.d_rim ["radius"] sp_rim) (h_votes : FnD P w K mg base 2 T.a_votes T.d_votes ["cells", "radii"] sp_votes) : FnD P w K mg base 3 T.a_rims_in T.d_rims_in ["cells", "radii", "missing"] sp_rims_in :=
  fn_d T.F_rims_in sc_rims_in len_rims_in (pr_rims_in T h_rim h_votes) run_rims_in
theorem pr_shared_cells (T : Txt K mg) (h_rim : FnD P w K mg base 1 T.a_rim T.d_rim ["radius"] sp_rim) (cdv : Value) (A : Around) (outer : List Env) (s : Shared) (H : Hp) (E : XK) (hr : Room 1 (A.deeper (envOfC "shared_cells" (defScope s_shared_cells) s.heap.objs.size T.a_shared_cells cdv))) :
    PSsD (cxOf CX0 P w K mg base N_shared_cells "shared_cells" (defScope s_shared_cells) T.a_shared_cells cdv A outer s H E).nox (defBody s_shared_cells) T_shared_cells :=
  (pssd_cons (psd_set (i := 2) sc_shared_cells.nd rfl (Or.inr rfl) (ped_fz (ped_dcN hr.units (own := [("x", 3), ("y", 4)]) rfl sc_shared_cells.nd (pid_seq (ped_call h_rim (hr.mono (by decide)) T.m_rim T.F_rim.kp T.bi_rim (pad_cons (ped_ix (ixd hr.units) (ped_name 0) ped_int) pad_nil))) (blkOk_by (N := N_shared_cells) (sc := defScope s_shared_cells) (by decide +kernel)) (fun _ _ _ _ _ => (pgd_tup rfl (pgsd_cons (pgd_name (i := 3) sc_shared_cells.nd rfl (Or.inl rfl)) (pgsd_cons (pgd_name (i := 4) sc_shared_cells.nd rfl (Or.inl rfl)) pgsd_nil)))) (fun _ _ _ _ _ => ptsd_nil) (fun _ _ _ _ _ => (ped_tup (pad_cons (ped_op od_add (ped_ix (ixd hr.units) (ped_name 0) ped_int) (ped_name 3)) (pad_cons (ped_op od_add (ped_ix (ixd hr.units) (ped_name 0) ped_int) (ped_name 4)) pad_nil)))) (fun _ _ _ _ _ => ped_bl))))
      (pssd_one (psd_ret (ped_callB cd_len T.b_len bt_len (pad_cons (ped_fz (ped_lc (own := [("x", 3), ("y", 4)]) rfl sc_shared_cells.nd (pid_seq (ped_call h_rim (hr.mono (by decide)) T.m_rim T.F_rim.kp T.bi_rim (pad_cons (ped_ix (ixd hr.units) (ped_name 1) ped_int) pad_nil))) (blkOk_by (N := N_shared_cells) (sc := defScope s_shared_cells) (by decide +kernel)) (fun _ _ _ _ _ => (pgd_tup rfl (pgsd_cons (pgd_name (i := 3) sc_shared_cells.nd rfl (Or.inl rfl)) (pgsd_cons (pgd_name (i := 4) sc_shared_cells.nd rfl (Or.inl rfl)) pgsd_nil)))) (fun _ _ _ _ _ => (ptsd_one (ptd_cmp (od_in (DL.Room.u65 hr)) (ped_tup (pad_cons (ped_op od_add (ped_ix (ixd hr.units) (ped_name 1) ped_int) (ped_name 3)) (pad_cons (ped_op od_add (ped_ix (ixd hr.units) (ped_name 1) ped_int) (ped_name 4)) pad_nil))) (ped_name 2) (by with_unfolding_all rfl)))) (fun _ _ _ _ _ => (ped_tup (pad_cons (ped_name 3) (pad_cons (ped_name 4) pad_nil)))))) pad_nil)))))
theorem ok_shared_cells (T : Txt K mg) (h_rim : FnD P w K mg base 1 T.a_rim T.d_rim ["radius"] sp_rim) : FnD P w K mg base 2 T.a_shared_cells T.d_shared_cells ["one", "other"] sp_shared_cells :=
  fn_d T.F_shared_cells sc_shared_cells len_shared_cells (pr_shared_cells T h_rim) run_shared_cells
theorem pr_is_barred (T : Txt K mg) (h_rim : FnD P w K mg base 1 T.a_rim T.d_rim ["radius"] sp_rim) (h_shared_cells : FnD P w K mg base 2 T.a_shared_cells T.d_shared_cells ["one", "other"] sp_shared_cells) (cdv : Value) (A : Around) (outer : List Env) (s : Shared) (H : Hp) (E : XK) (hr : Room 2 (A.deeper (envOfC "is_barred" (defScope s_is_barred) s.heap.objs.size T.a_is_barred cdv))) :
    PSsD (cxOf CX0 P w K mg base N_is_barred "is_barred" (defScope s_is_barred) T.a_is_barred cdv A outer s H E).nox (defBody s_is_barred) T_is_barred :=
  (pssd_cons (psd_set (i := 3) sc_is_barred.nd rfl (Or.inl rfl) (ped_callB (cd_sum rfl) T.b_sum bt_sum (pad_cons (ped_fz (ped_lc (own := [("other", 4)]) rfl sc_is_barred.nd (pid_seq (ped_name 1)) (blkOk_by (N := N_is_barred) (sc := defScope s_is_barred) (by decide +kernel)) (fun _ _ _ _ _ => (pgd_name (i := 4) sc_is_barred.nd rfl (Or.inl rfl))) (fun _ _ _ _ _ => ptsd_nil) (fun _ _ _ _ _ => (ped_call h_shared_cells (hr.mono (by decide)) T.m_shared_cells T.F_shared_cells.kp T.bi_shared_cells (pad_cons (ped_name 0) (pad_cons (ped_name 4) pad_nil)))))) pad_nil)))
      (pssd_one (psd_ret (ped_cmp (od_lt hr.units) (ped_name 3) (ped_op od_sub (ped_callB cd_len T.b_len bt_len (pad_cons (ped_call h_rim (hr.mono (by decide)) T.m_rim T.F_rim.kp T.bi_rim (pad_cons (ped_ix (ixd hr.units) (ped_name 0) ped_int) pad_nil)) pad_nil)) (ped_name 2)) (nomark _)))))
theorem ok_is_barred (T : Txt K mg) (h_rim : FnD P w K mg base 1 T.a_rim T.d_rim ["radius"] sp_rim) (h_shared_cells : FnD P w K mg base 2 T.a_shared_cells T.d_shared_cells ["one", "other"] sp_shared_cells) : FnD P w K mg base 3 T.a_is_barred T.d_is_barred ["place", "others", "missing"] sp_is_barred :=
  fn_d T.F_is_barred sc_is_barred len_is_barred (pr_is_barred T h_rim h_shared_cells) run_is_barred
theorem pr__law_number (T : Txt K mg) (cdv : Value) (A : Around) (outer : List Env) (s : Shared) (H : Hp) (E : XK) (hr : Room 0 (A.deeper (envOfC "_law_number" (defScope s__law_number) s.heap.objs.size T.a__law_number cdv))) :
    PSsD (cxOf CX0 P w K mg base N__law_number "_law_number" (defScope s__law_number) T.a__law_number cdv A outer s H E).nox (defBody s__law_number) T__law_number :=
  (pssd_cons (psd_asg (ped_if (ptd_cmp (od_ne hr.units) (ped_name 0) (ped_lstF pad_nil) (nomark _)) (ped_tup (pad_cons (ped_ix (ixd hr.units) (ped_name 0) (ped_op od_mod (ped_name 1) (ped_callB cd_len T.b_len bt_len (pad_cons (ped_name 0) pad_nil)))) (pad_cons (ped_op od_fdiv (ped_name 1) (ped_callB cd_len T.b_len bt_len (pad_cons (ped_name 0) pad_nil))) pad_nil))) (ped_tup (pad_cons ped_int (pad_cons ped_int pad_nil)))) (pgd_tup rfl (pgsd_cons (pgd_name (i := 2) sc__law_number.nd rfl (Or.inl rfl)) (pgsd_cons (pgd_name (i := 3) sc__law_number.nd rfl (Or.inl rfl)) pgsd_nil))))
      (pssd_cons (psd_set (i := 4) sc__law_number.nd rfl (Or.inl rfl) (ped_if (ptd_cmp (od_lt hr.units) (ped_name 3) ped_int (nomark _)) (ped_op od_sub (ped_name 2) (ped_op od_pow ped_int ped_int)) ped_int))
      (pssd_cons (psd_for PassesOwn.never rfl (pid_range1 T.b_range (pad_cons (ped_op od_mod (ped_callTy cd_int T.b_int bt_int (pad_cons (ped_name 3) pad_nil)) ped_int) pad_nil)) (pgd_name (i := 5) sc__law_number.nd rfl (Or.inl rfl))
      (pssd_one (psd_set (i := 4) sc__law_number.nd rfl (Or.inl rfl) (ped_op od_fdiv (ped_name 4) ped_int))))
      (pssd_cons (psd_if (ptd_cmp (od_gt hr.units) (ped_name 4) ped_int (nomark _))
      (pssd_one (psd_ret (ped_op od_mod (ped_callTy cd_int T.b_int bt_int (pad_cons (ped_name 4) pad_nil)) ped_int)))
      pssd_nil)
      (pssd_cons (psd_set (i := 6) sc__law_number.nd rfl (Or.inl rfl) (ped_op od_mod (ped_op od_add (ped_op od_mul (ped_callTy cd_int T.b_int bt_int (pad_cons (ped_op od_add (ped_name 2) (ped_op od_mul ped_int (ped_name 1))) pad_nil)) ped_int) (ped_op od_mul ped_int (ped_callB cd_len T.b_len bt_len (pad_cons (ped_name 0) pad_nil)))) ped_int))
      (pssd_cons (psd_set (i := 6) sc__law_number.nd rfl (Or.inl rfl) (ped_op od_mod (ped_op od_add (ped_op od_mul (ped_name 6) (ped_name 6)) (ped_op od_mul ped_int (ped_name 1))) ped_int))
      (pssd_one (psd_ret (ped_callTy cd_int T.b_int bt_int (pad_cons (ped_op od_mod (ped_op od_add (ped_op od_mul (ped_name 6) ped_int) (ped_op od_fdiv (ped_name 6) ped_int)) ped_int) pad_nil))))))))))
theorem ok__law_number (T : Txt K mg) : FnD P w K mg base 1 T.a__law_number T.d__law_number ["script", "index"] sp__law_number :=
  fn_d T.F__law_number sc__law_number len__law_number (pr__law_number T) run__law_number
theorem pr__law_take (T : Txt K mg) (h__law_number : FnD P w K mg base 1 T.a__law_number T.d__law_number ["script", "index"] sp__law_number) (cdv : Value) (A : Around) (outer : List Env) (s : Shared) (H : Hp) (E : XK) (hr : Room 1 (A.deeper (envOfC "_law_take" (defScope s__law_take) s.heap.objs.size T.a__law_take cdv))) :
    PSsD (cxOf CX0 P w K mg base N__law_take "_law_take" (defScope s__law_take) T.a__law_take cdv A outer s H E).nox (defBody s__law_take) T__law_take :=
  (pssd_cons (psd_augS (ped_name 0) ped_int get_list ped_int iod_add (pset_d hr.units))
      (pssd_one (psd_ret (ped_op od_mod (ped_callTy cd_int T.b_int bt_int (pad_cons (ped_call h__law_number (hr.mono (by decide)) T.m__law_number T.F__law_number.kp T.bi__law_number (pad_cons (ped_ix (ixd hr.units) (ped_name 0) ped_int) (pad_cons (ped_callTy cd_int T.b_int bt_int (pad_cons (ped_ix (ixd hr.units) (ped_name 0) ped_int) pad_nil)) pad_nil))) pad_nil)) (ped_name 1)))))
theorem ok__law_take (T : Txt K mg) (h__law_number : FnD P w K mg base 1 T.a__law_number T.d__law_number ["script", "index"] sp__law_number) : FnD P w K mg base 2 T.a__law_take T.d__law_take ["draw", "many"] sp__law_take :=
  fn_d T.F__law_take sc__law_take len__law_take (pr__law_take T h__law_number) run__law_take
theorem pr__law_unlike (T : Txt K mg) (cdv : Value) (A : Around) (outer : List Env) (s : Shared) (H : Hp) (E : XK) (hr : Room 0 (A.deeper (envOfC "_law_unlike" (defScope s__law_unlike) s.heap.objs.size T.a__law_unlike cdv))) :
    PSsD (cxOf CX0 P w K mg base N__law_unlike "_law_unlike" (defScope s__law_unlike) T.a__law_unlike cdv A outer s H E).nox (defBody s__law_unlike) T__law_unlike :=
  (pssd_cons (psd_set (i := 1) sc__law_unlike.nd rfl (Or.inl rfl) ped_newN)
      (pssd_cons (psd_for PassesOwn.never rfl (pid_seq (ped_name 0)) (pgd_name (i := 2) sc__law_unlike.nd rfl (Or.inl rfl))
      (pssd_one (psd_asg ped_bl (pgd_sub (ped_name 1) (ped_name 2) (pset_d hr.units)))))
      (pssd_frz 1 (pssd_one (psd_ret (ped_fz (ped_callB (cd_sortedD hr.units rfl) T.b_sorted bt_sorted (pad_cons (ped_name 1) pad_nil))))))))
theorem ok__law_unlike (T : Txt K mg) : FnD P w K mg base 1 T.a__law_unlike T.d__law_unlike ["items"] sp__law_unlike :=
  fn_d T.F__law_unlike sc__law_unlike len__law_unlike (pr__law_unlike T) run__law_unlike
theorem pr_law (T : Txt K mg) (h__law_take : FnD P w K mg base 2 T.a__law_take T.d__law_take ["draw", "many"] sp__law_take) (h__law_unlike : FnD P w K mg base 1 T.a__law_unlike T.d__law_unlike ["items"] sp__law_unlike) (h_is_barred : FnD P w K mg base 3 T.a_is_barred T.d_is_barred ["place", "others", "missing"] sp_is_barred) (h_radius_of : FnD P w K mg base 1 T.a_radius_of T.d_radius_of ["x", "y"] sp_radius_of) (h_rim : FnD P w K mg base 1 T.a_rim T.d_rim ["radius"] sp_rim) (h_rims_in : FnD P w K mg base 3 T.a_rims_in T.d_rims_in ["cells", "radii", "missing"] sp_rims_in) (h_shared_cells : FnD P w K mg base 2 T.a_shared_cells T.d_shared_cells ["one", "other"] sp_shared_cells) (h_votes : FnD P w K mg base 2 T.a_votes T.d_votes ["cells", "radii"] sp_votes) (cdv : Value) (A : Around) (outer : List Env) (s : Shared) (H : Hp) (E : XK) (hr : Room 3 (A.deeper (envOfC "law" (defScope s_law) s.heap.objs.size T.a_law cdv))) :
    PSsD (cxOf CX0 P w K mg base N_law "law" (defScope s_law) T.a_law cdv A outer s H E).nox (defBody s_law) T_law :=
  (pssd_cons (psd_set (i := 1) sc_law.nd rfl (Or.inr rfl) (ped_lstM (pad_cons (ped_name 0) (pad_cons ped_int pad_nil))))
      (pssd_cons (psd_for PassesOwn.never rfl (pid_range1 T.b_range (pad_cons ped_int pad_nil)) (pgd_name (i := 2) sc_law.nd rfl (Or.inr rfl))
      (pssd_cons (psd_set (i := 3) sc_law.nd rfl (Or.inl rfl) (ped_call h_rim (hr.mono (by decide)) T.m_rim T.F_rim.kp T.bi_rim (pad_cons (ped_name 2) pad_nil)))
      (pssd_one (psd_if (ptd_w (pwd_or (ptd_not (ptd_val (ped_callB (cd_all rfl) T.b_all bt_all (pad_cons (ped_fz (ped_lc (own := [("x", 4), ("y", 5)]) rfl sc_law.nd (pid_seq (ped_name 3)) (blkOk_by (N := N_law) (sc := defScope s_law) (by decide +kernel)) (fun _ _ _ _ _ => (pgd_tup rfl (pgsd_cons (pgd_name (i := 4) sc_law.nd rfl (Or.inl rfl)) (pgsd_cons (pgd_name (i := 5) sc_law.nd rfl (Or.inl rfl)) pgsd_nil)))) (fun _ _ _ _ _ => ptsd_nil) (fun _ _ _ _ _ => (ped_cmp (od_eq hr.units) (ped_call h_radius_of (hr.mono (by decide)) T.m_radius_of T.F_radius_of.kp T.bi_radius_of (pad_cons (ped_name 4) (pad_cons (ped_name 5) pad_nil))) (ped_name 2) (nomark _))))) pad_nil)))) (pwd_or1 (ptd_cmp (od_ne hr.units) (ped_name 3) (ped_fz (ped_callB (cd_sorted hr.units) T.b_sorted bt_sorted (pad_cons (ped_name 3) pad_nil))) (nomark _)))))
      (pssd_one (psd_ret ped_bl))
      pssd_nil))))
      (pssd_cons (psd_for PassesOwn.never rfl (pid_range2 T.b_range (pad_cons (ped_neg ped_int) (pad_cons ped_int pad_nil))) (pgd_name (i := 4) sc_law.nd rfl (Or.inr rfl))
      (pssd_one (psd_for PassesOwn.never rfl (pid_range2 T.b_range (pad_cons (ped_neg ped_int) (pad_cons ped_int pad_nil))) (pgd_name (i := 5) sc_law.nd rfl (Or.inr rfl))
      (pssd_one (psd_if (ptd_cmp (od_notin (DL.Room.u65 hr)) (ped_tup (pad_cons (ped_name 4) (pad_cons (ped_name 5) pad_nil))) (ped_call h_rim (hr.mono (by decide)) T.m_rim T.F_rim.kp T.bi_rim (pad_cons (ped_call h_radius_of (hr.mono (by decide)) T.m_radius_of T.F_radius_of.kp T.bi_radius_of (pad_cons (ped_name 4) (pad_cons (ped_name 5) pad_nil))) pad_nil)) (by with_unfolding_all rfl))
      (pssd_one (psd_ret ped_bl))
      pssd_nil)))))
      (pssd_cons (psd_set (i := 3) sc_law.nd rfl (Or.inl rfl) (ped_lstM pad_nil))
      (pssd_cons (psd_setLc (i := 6) (own := [("turn", 18)]) rfl sc_law.nd rfl rfl (sw_true rfl rfl rfl (by decide +kernel)) (pid_range1 T.b_range (pad_cons (ped_op od_add ped_int (ped_call h__law_take (hr.mono (by decide)) T.m__law_take T.F__law_take.kp T.bi__law_take (pad_cons (ped_name 1) (pad_cons ped_int pad_nil)))) pad_nil)) (blkOk_by (N := N_law) (sc := defScope s_law) (by decide +kernel)) (fun _ _ _ _ _ => (pgd_name (i := 18) sc_law.nd rfl (Or.inl rfl))) (fun _ _ _ _ _ => ptsd_nil) (fun _ _ _ _ _ => (ped_tup (pad_cons (ped_call h__law_take (hr.mono (by decide)) T.m__law_take T.F__law_take.kp T.bi__law_take (pad_cons (ped_name 1) (pad_cons ped_int pad_nil))) (pad_cons (ped_call h__law_take (hr.mono (by decide)) T.m__law_take T.F__law_take.kp T.bi__law_take (pad_cons (ped_name 1) (pad_cons ped_int pad_nil))) (pad_cons (ped_op od_add ped_int (ped_call h__law_take (hr.mono (by decide)) T.m__law_take T.F__law_take.kp T.bi__law_take (pad_cons (ped_name 1) (pad_cons ped_int pad_nil)))) pad_nil))))))
      (pssd_frz 6 (pssd_cons (psd_for PassesOwn.never rfl (pid_seq (ped_name 6)) (pgd_tup rfl (pgsd_cons (pgd_name (i := 4) sc_law.nd rfl (Or.inr rfl)) (pgsd_cons (pgd_name (i := 5) sc_law.nd rfl (Or.inr rfl)) (pgsd_cons (pgd_name (i := 2) sc_law.nd rfl (Or.inr rfl)) pgsd_nil))))
      (pssd_one (psd_aug (i := 3) sc_law.nd rfl (Or.inl rfl) (ped_fz (ped_lc (own := [("right", 19), ("down", 20)]) rfl sc_law.nd (pid_seq (ped_call h_rim (hr.mono (by decide)) T.m_rim T.F_rim.kp T.bi_rim (pad_cons (ped_name 2) pad_nil))) (blkOk_by (N := N_law) (sc := defScope s_law) (by decide +kernel)) (fun _ _ _ _ _ => (pgd_tup rfl (pgsd_cons (pgd_name (i := 19) sc_law.nd rfl (Or.inl rfl)) (pgsd_cons (pgd_name (i := 20) sc_law.nd rfl (Or.inl rfl)) pgsd_nil)))) (fun _ _ _ _ _ => (ptsd_one (ptd_cmp (od_gt hr.units) (ped_call h__law_take (hr.mono (by decide)) T.m__law_take T.F__law_take.kp T.bi__law_take (pad_cons (ped_name 1) (pad_cons ped_int pad_nil))) ped_int (nomark _)))) (fun _ _ _ _ _ => (ped_tup (pad_cons (ped_op od_add (ped_name 4) (ped_name 19)) (pad_cons (ped_op od_add (ped_name 5) (ped_name 20)) pad_nil)))))) iod_add)))
      (pssd_cons (psd_set (i := 3) sc_law.nd rfl (Or.inl rfl) (ped_call h__law_unlike (hr.mono (by decide)) T.m__law_unlike T.F__law_unlike.kp T.bi__law_unlike (pad_cons (ped_op od_add (ped_name 3) (ped_fz (ped_lc (own := [("turn", 18)]) rfl sc_law.nd (pid_range1 T.b_range (pad_cons (ped_call h__law_take (hr.mono (by decide)) T.m__law_take T.F__law_take.kp T.bi__law_take (pad_cons (ped_name 1) (pad_cons ped_int pad_nil))) pad_nil)) (blkOk_by (N := N_law) (sc := defScope s_law) (by decide +kernel)) (fun _ _ _ _ _ => (pgd_name (i := 18) sc_law.nd rfl (Or.inl rfl))) (fun _ _ _ _ _ => ptsd_nil) (fun _ _ _ _ _ => (ped_tup (pad_cons (ped_call h__law_take (hr.mono (by decide)) T.m__law_take T.F__law_take.kp T.bi__law_take (pad_cons (ped_name 1) (pad_cons ped_int pad_nil))) (pad_cons (ped_call h__law_take (hr.mono (by decide)) T.m__law_take T.F__law_take.kp T.bi__law_take (pad_cons (ped_name 1) (pad_cons ped_int pad_nil))) pad_nil))))))) pad_nil)))
      (pssd_cons (psd_asg (ped_tup (pad_cons (ped_lstF (pad_cons ped_int (pad_cons ped_int (pad_cons ped_int pad_nil)))) (pad_cons (ped_call h__law_take (hr.mono (by decide)) T.m__law_take T.F__law_take.kp T.bi__law_take (pad_cons (ped_name 1) (pad_cons ped_int pad_nil))) (pad_cons (ped_lstM pad_nil) (pad_cons (ped_fz (ped_callTy (cd_dictN hr.units rfl) T.b_dict bt_dict (pad_cons (ped_fz (ped_lc (own := [("cell", 21)]) rfl sc_law.nd (pid_seq (ped_name 3)) (blkOk_by (N := N_law) (sc := defScope s_law) (by decide +kernel)) (fun _ _ _ _ _ => (pgd_name (i := 21) sc_law.nd rfl (Or.inl rfl))) (fun _ _ _ _ _ => ptsd_nil) (fun _ _ _ _ _ => (ped_tup (pad_cons (ped_name 21) (pad_cons ped_bl pad_nil)))))) pad_nil))) pad_nil))))) (pgd_tup rfl (pgsd_cons (pgd_name (i := 7) sc_law.nd rfl (Or.inl rfl)) (pgsd_cons (pgd_name (i := 8) sc_law.nd rfl (Or.inl rfl)) (pgsd_cons (pgd_name (i := 9) sc_law.nd rfl (Or.inl rfl)) (pgsd_cons (pgd_name (i := 10) sc_law.nd rfl (Or.inr rfl)) pgsd_nil))))))
      (pssd_cons (psd_set (i := 11) sc_law.nd rfl (Or.inl rfl) (ped_call h_votes (hr.mono (by decide)) T.m_votes T.F_votes.kp T.bi_votes (pad_cons (ped_name 3) (pad_cons (ped_name 7) pad_nil))))
      (pssd_cons (psd_for PassesOwn.never rfl (pid_seq (ped_name 7)) (pgd_name (i := 2) sc_law.nd rfl (Or.inr rfl))
      (pssd_cons (psd_set (i := 12) sc_law.nd rfl (Or.inl rfl) (ped_call h_rim (hr.mono (by decide)) T.m_rim T.F_rim.kp T.bi_rim (pad_cons (ped_name 2) pad_nil)))
      (pssd_one (psd_for PassesOwn.never rfl (pid_range2 T.b_range (pad_cons (ped_neg ped_int) (pad_cons ped_int pad_nil))) (pgd_name (i := 4) sc_law.nd rfl (Or.inr rfl))
      (pssd_one (psd_for PassesOwn.never rfl (pid_range2 T.b_range (pad_cons (ped_neg ped_int) (pad_cons ped_int pad_nil))) (pgd_name (i := 5) sc_law.nd rfl (Or.inr rfl))
      (pssd_cons (psd_set (i := 13) sc_law.nd rfl (Or.inl rfl) (ped_callB cd_len T.b_len bt_len (pad_cons (ped_fz (ped_lc (own := [("right", 19), ("down", 20)]) rfl sc_law.nd (pid_seq (ped_name 12)) (blkOk_by (N := N_law) (sc := defScope s_law) (by decide +kernel)) (fun _ _ _ _ _ => (pgd_tup rfl (pgsd_cons (pgd_name (i := 19) sc_law.nd rfl (Or.inl rfl)) (pgsd_cons (pgd_name (i := 20) sc_law.nd rfl (Or.inl rfl)) pgsd_nil)))) (fun _ _ _ _ _ => (ptsd_one (ptd_cmp (od_in (DL.Room.u65 hr)) (ped_tup (pad_cons (ped_op od_add (ped_name 4) (ped_name 19)) (pad_cons (ped_op od_add (ped_name 5) (ped_name 20)) pad_nil))) (ped_name 10) (by with_unfolding_all rfl)))) (fun _ _ _ _ _ => ped_int))) pad_nil)))
      (pssd_cons (psd_if (ptd_cmp (od_ne hr.units) (ped_m PySem.F.plainAttrs_dict PySem.F.slot_dict_get PySem.F.type_dict_get (md_get2 hr.units) (ped_name 11) (pad_cons (ped_tup (pad_cons (ped_name 4) (pad_cons (ped_name 5) (pad_cons (ped_name 2) pad_nil)))) (pad_cons ped_int pad_nil))) (ped_name 13) (nomark _))
      (pssd_one (psd_ret ped_bl))
      pssd_nil)
      (pssd_one (psd_if (ptd_cmp (od_ge hr.units) (ped_name 13) (ped_op od_sub (ped_callB cd_len T.b_len bt_len (pad_cons (ped_name 12) pad_nil)) (ped_name 8)) (nomark _))
      (pssd_one (psd_expr (ped_m PySem.F.plainAttrs_list PySem.F.slot_list_append PySem.F.type_list_append md_append (ped_name 9) (pad_cons (ped_tup (pad_cons (ped_name 4) (pad_cons (ped_name 5) (pad_cons (ped_name 2) pad_nil)))) pad_nil))))
      pssd_nil))))))))))
      (pssd_cons (psd_if (ptd_cmp (od_ne hr.units) (ped_call h_rims_in (hr.mono (by decide)) T.m_rims_in T.F_rims_in.kp T.bi_rims_in (pad_cons (ped_name 3) (pad_cons (ped_name 7) (pad_cons (ped_name 8) pad_nil)))) (ped_callTy cd_tuple T.b_tuple bt_tuple (pad_cons (ped_fz (ped_callB (cd_sorted hr.units) T.b_sorted bt_sorted (pad_cons (ped_name 9) pad_nil))) pad_nil)) (nomark _))
      (pssd_one (psd_ret ped_bl))
      pssd_nil)
      (pssd_cons (psd_asg (ped_tup (pad_cons (ped_tup (pad_cons (ped_call h__law_take (hr.mono (by decide)) T.m__law_take T.F__law_take.kp T.bi__law_take (pad_cons (ped_name 1) (pad_cons ped_int pad_nil))) (pad_cons (ped_call h__law_take (hr.mono (by decide)) T.m__law_take T.F__law_take.kp T.bi__law_take (pad_cons (ped_name 1) (pad_cons ped_int pad_nil))) (pad_cons (ped_op od_add ped_int (ped_call h__law_take (hr.mono (by decide)) T.m__law_take T.F__law_take.kp T.bi__law_take (pad_cons (ped_name 1) (pad_cons ped_int pad_nil)))) pad_nil)))) (pad_cons (ped_name 6) pad_nil))) (pgd_tup rfl (pgsd_cons (pgd_name (i := 14) sc_law.nd rfl (Or.inr rfl)) (pgsd_cons (pgd_name (i := 15) sc_law.nd rfl (Or.inl rfl)) pgsd_nil))))
      (pssd_cons (psd_set (i := 16) sc_law.nd rfl (Or.inl rfl) (ped_lstM pad_nil))
      (pssd_cons (psd_for PassesOwn.never rfl (pid_seq (ped_name 15)) (pgd_tup rfl (pgsd_cons (pgd_name (i := 4) sc_law.nd rfl (Or.inr rfl)) (pgsd_cons (pgd_name (i := 5) sc_law.nd rfl (Or.inr rfl)) (pgsd_cons (pgd_name (i := 2) sc_law.nd rfl (Or.inr rfl)) pgsd_nil))))
      (pssd_one (psd_aug (i := 16) sc_law.nd rfl (Or.inl rfl) (ped_fz (ped_lc (own := [("right", 19), ("down", 20)]) rfl sc_law.nd (pid_seq (ped_call h_rim (hr.mono (by decide)) T.m_rim T.F_rim.kp T.bi_rim (pad_cons (ped_name 2) pad_nil))) (blkOk_by (N := N_law) (sc := defScope s_law) (by decide +kernel)) (fun _ _ _ _ _ => (pgd_tup rfl (pgsd_cons (pgd_name (i := 19) sc_law.nd rfl (Or.inl rfl)) (pgsd_cons (pgd_name (i := 20) sc_law.nd rfl (Or.inl rfl)) pgsd_nil)))) (fun _ _ _ _ _ => ptsd_nil) (fun _ _ _ _ _ => (ped_tup (pad_cons (ped_op od_add (ped_name 4) (ped_name 19)) (pad_cons (ped_op od_add (ped_name 5) (ped_name 20)) pad_nil)))))) iod_add)))
      (pssd_cons (psd_setLc (i := 17) (own := [("other", 22)]) rfl sc_law.nd rfl rfl (sw_true rfl rfl rfl (by decide +kernel)) (pid_seq (ped_name 15)) (blkOk_by (N := N_law) (sc := defScope s_law) (by decide +kernel)) (fun _ _ _ _ _ => (pgd_name (i := 22) sc_law.nd rfl (Or.inr rfl))) (fun _ _ _ _ _ => ptsd_nil) (fun _ _ _ _ _ => (ped_callB cd_len T.b_len bt_len (pad_cons (ped_fz (ped_lc (own := [("x", 4), ("y", 5)]) rfl sc_law.nd (pid_seq (ped_call h_rim (hr.mono (by decide)) T.m_rim T.F_rim.kp T.bi_rim (pad_cons (ped_ix (ixd hr.units) (ped_name 14) ped_int) pad_nil))) (blkOk_by (by kernel_rfl)) (fun _ _ _ _ _ => (pgd_tup rfl (pgsd_cons (pgd_name (i := 4) sc_law.nd rfl (Or.inl rfl)) (pgsd_cons (pgd_name (i := 5) sc_law.nd rfl (Or.inl rfl)) pgsd_nil)))) (fun _ _ _ _ _ => (ptsd_one (ptd_cmp (od_in (DL.Room.u65 hr)) (ped_tup (pad_cons (ped_op od_sub (ped_op od_add (ped_ix (ixd hr.units) (ped_name 14) ped_int) (ped_name 4)) (ped_ix (ixd hr.units) (ped_name 22) ped_int)) (pad_cons (ped_op od_sub (ped_op od_add (ped_ix (ixd hr.units) (ped_name 14) ped_int) (ped_name 5)) (ped_ix (ixd hr.units) (ped_name 22) ped_int)) pad_nil))) (ped_call h_rim (hr.mono (by decide)) T.m_rim T.F_rim.kp T.bi_rim (pad_cons (ped_ix (ixd hr.units) (ped_name 22) ped_int) pad_nil)) (by with_unfolding_all rfl)))) (fun _ _ _ _ _ => ped_int))) pad_nil))))
      (pssd_frz 17 (pssd_cons (psd_if (ptd_cmp (od_ne hr.units) (ped_fz (ped_lc (own := [("other", 22)]) rfl sc_law.nd (pid_seq (ped_name 15)) (blkOk_by (N := N_law) (sc := defScope s_law) (by decide +kernel)) (fun _ _ _ _ _ => (pgd_name (i := 22) sc_law.nd rfl (Or.inl rfl))) (fun _ _ _ _ _ => ptsd_nil) (fun _ _ _ _ _ => (ped_call h_shared_cells (hr.mono (by decide)) T.m_shared_cells T.F_shared_cells.kp T.bi_shared_cells (pad_cons (ped_name 14) (pad_cons (ped_name 22) pad_nil)))))) (ped_name 17) (nomark _))
      (pssd_one (psd_ret ped_bl))
      pssd_nil)
      (pssd_cons (psd_if (ptd_cmp (od_ne hr.units) (ped_call h_is_barred (hr.mono (by decide)) T.m_is_barred T.F_is_barred.kp T.bi_is_barred (pad_cons (ped_name 14) (pad_cons (ped_name 15) (pad_cons (ped_name 8) pad_nil)))) (ped_cmp (od_lt hr.units) (ped_callB (cd_sum rfl) T.b_sum bt_sum (pad_cons (ped_name 17) pad_nil)) (ped_op od_sub (ped_callB cd_len T.b_len bt_len (pad_cons (ped_call h_rim (hr.mono (by decide)) T.m_rim T.F_rim.kp T.bi_rim (pad_cons (ped_ix (ixd hr.units) (ped_name 14) ped_int) pad_nil)) pad_nil)) (ped_name 8)) (nomark _)) (nomark _))
      (pssd_one (psd_ret ped_bl))
      pssd_nil)
      (pssd_frz 16 (pssd_one (psd_ret (ped_or (ped_not (ped_call h_is_barred (hr.mono (by decide)) T.m_is_barred T.F_is_barred.kp T.bi_is_barred (pad_cons (ped_name 14) (pad_cons (ped_name 15) (pad_cons (ped_name 8) pad_nil))))) (ped_one (ped_cmp (od_notin (DL.Room.u65 hr)) (ped_name 14) (ped_call h_rims_in (hr.mono (by decide)) T.m_rims_in T.F_rims_in.kp T.bi_rims_in (pad_cons (ped_call h__law_unlike (hr.mono (by decide)) T.m__law_unlike T.F__law_unlike.kp T.bi__law_unlike (pad_cons (ped_name 16) pad_nil)) (pad_cons (ped_name 7) (pad_cons (ped_name 8) pad_nil)))) (by with_unfolding_all rfl))))))))))))))))))))))))))
theorem ok_law (T : Txt K mg) (h__law_take : FnD P w K mg base 2 T.a__law_take T.d__law_take ["draw", "many"] sp__law_take) (h__law_unlike : FnD P w K mg base 1 T.a__law_unlike T.d__law_unlike ["items"] sp__law_unlike) (h_is_barred : FnD P w K mg base 3 T.a_is_barred T.d_is_barred ["place", "others", "missing"] sp_is_barred) (h_radius_of : FnD P w K mg base 1 T.a_radius_of T.d_radius_of ["x", "y"] sp_radius_of) (h_rim : FnD P w K mg base 1 T.a_rim T.d_rim ["radius"] sp_rim) (h_rims_in : FnD P w K mg base 3 T.a_rims_in T.d_rims_in ["cells", "radii", "missing"] sp_rims_in) (h_shared_cells : FnD P w K mg base 2 T.a_shared_cells T.d_shared_cells ["one", "other"] sp_shared_cells) (h_votes : FnD P w K mg base 2 T.a_votes T.d_votes ["cells", "radii"] sp_votes) : FnD P w K mg base 4 T.a_law T.d_law ["script"] sp_law :=
  fn_d T.F_law sc_law len_law (pr_law T h__law_take h__law_unlike h_is_barred h_radius_of h_rim h_rims_in h_shared_cells h_votes) run_law
end
theorem all_mk {l : PySem.W.OpenLaw} {w : World} {K : PySem.W.Frag} {h : Heap} {mg : Str → Option Value} {fa f0 f1 f2 f3 f4 f5 f6 f7 f8 f9 : Addr} (X : K.In h) (G : h.Ns mainGlobals mg) (hfa : mg "law" = some (.ref fa))
    {od0 od1 od2 od3 od4 od5 od6 od7 od8 od9 an0 an1 an2 an3 an4 an5 an6 an7 an8 an9 : Option Addr} {sl0 sl1 sl2 sl3 sl4 sl5 sl6 sl7 sl8 sl9 : Array (Option Value)} {oc0 oc1 oc2 oc3 oc4 oc5 oc6 oc7 oc8 oc9 kV0 kV1 kV2 kV3 kV4 kV5 kV6 kV7 kV8 kV9 dc0 dc1 dc2 dc3 dc4 dc5 dc6 dc7 dc8 dc9 pm0 pm1 pm2 pm3 pm4 pm5 pm6 pm7 pm8 pm9 cd0 cd1 cd2 cd3 cd4 cd5 cd6 cd7 cd8 cd9 ct0 ct1 ct2 ct3 ct4 ct5 ct6 ct7 ct8 ct9 : Value}
    (a0 : PySem.W.nsIn K mainGlobals "rim" = some (some (.ref f0))) (l0 : K.lookup f0 = some ⟨oc0, od0, .func (PySem.W.fnOf "rim" "rim" (defArgs s_rim) (defBody s_rim) (defScope s_rim) .none kV0 dc0 pm0 an0 cd0 ct0), sl0⟩) (c0 : PySem.W.codeIn K cd0 "rim" = true) (k0 : PySem.W.keepIn K (.ref f0) = true)
    (a1 : PySem.W.nsIn K mainGlobals "radius_of" = some (some (.ref f1))) (l1 : K.lookup f1 = some ⟨oc1, od1, .func (PySem.W.fnOf "radius_of" "radius_of" (defArgs s_radius_of) (defBody s_radius_of) (defScope s_radius_of) .none kV1 dc1 pm1 an1 cd1 ct1), sl1⟩) (c1 : PySem.W.codeIn K cd1 "radius_of" = true) (k1 : PySem.W.keepIn K (.ref f1) = true)
    (a2 : PySem.W.nsIn K mainGlobals "votes" = some (some (.ref f2))) (l2 : K.lookup f2 = some ⟨oc2, od2, .func (PySem.W.fnOf "votes" "votes" (defArgs s_votes) (defBody s_votes) (defScope s_votes) .none kV2 dc2 pm2 an2 cd2 ct2), sl2⟩) (c2 : PySem.W.codeIn K cd2 "votes" = true) (k2 : PySem.W.keepIn K (.ref f2) = true)
    (a3 : PySem.W.nsIn K mainGlobals "rims_in" = some (some (.ref f3))) (l3 : K.lookup f3 = some ⟨oc3, od3, .func (PySem.W.fnOf "rims_in" "rims_in" (defArgs s_rims_in) (defBody s_rims_in) (defScope s_rims_in) .none kV3 dc3 pm3 an3 cd3 ct3), sl3⟩) (c3 : PySem.W.codeIn K cd3 "rims_in" = true) (k3 : PySem.W.keepIn K (.ref f3) = true)
    (a4 : PySem.W.nsIn K mainGlobals "shared_cells" = some (some (.ref f4))) (l4 : K.lookup f4 = some ⟨oc4, od4, .func (PySem.W.fnOf "shared_cells" "shared_cells" (defArgs s_shared_cells) (defBody s_shared_cells) (defScope s_shared_cells) .none kV4 dc4 pm4 an4 cd4 ct4), sl4⟩) (c4 : PySem.W.codeIn K cd4 "shared_cells" = true) (k4 : PySem.W.keepIn K (.ref f4) = true)
    (a5 : PySem.W.nsIn K mainGlobals "is_barred" = some (some (.ref f5))) (l5 : K.lookup f5 = some ⟨oc5, od5, .func (PySem.W.fnOf "is_barred" "is_barred" (defArgs s_is_barred) (defBody s_is_barred) (defScope s_is_barred) .none kV5 dc5 pm5 an5 cd5 ct5), sl5⟩) (c5 : PySem.W.codeIn K cd5 "is_barred" = true) (k5 : PySem.W.keepIn K (.ref f5) = true)
    (a6 : PySem.W.nsIn K mainGlobals "_law_number" = some (some (.ref f6))) (l6 : K.lookup f6 = some ⟨oc6, od6, .func (PySem.W.fnOf "_law_number" "_law_number" (defArgs s__law_number) (defBody s__law_number) (defScope s__law_number) .none kV6 dc6 pm6 an6 cd6 ct6), sl6⟩) (c6 : PySem.W.codeIn K cd6 "_law_number" = true) (k6 : PySem.W.keepIn K (.ref f6) = true)
    (a7 : PySem.W.nsIn K mainGlobals "_law_take" = some (some (.ref f7))) (l7 : K.lookup f7 = some ⟨oc7, od7, .func (PySem.W.fnOf "_law_take" "_law_take" (defArgs s__law_take) (defBody s__law_take) (defScope s__law_take) .none kV7 dc7 pm7 an7 cd7 ct7), sl7⟩) (c7 : PySem.W.codeIn K cd7 "_law_take" = true) (k7 : PySem.W.keepIn K (.ref f7) = true)
    (a8 : PySem.W.nsIn K mainGlobals "_law_unlike" = some (some (.ref f8))) (l8 : K.lookup f8 = some ⟨oc8, od8, .func (PySem.W.fnOf "_law_unlike" "_law_unlike" (defArgs s__law_unlike) (defBody s__law_unlike) (defScope s__law_unlike) .none kV8 dc8 pm8 an8 cd8 ct8), sl8⟩) (c8 : PySem.W.codeIn K cd8 "_law_unlike" = true) (k8 : PySem.W.keepIn K (.ref f8) = true)
    (a9 : PySem.W.nsIn K mainGlobals "law" = some (some (.ref f9))) (l9 : K.lookup f9 = some ⟨oc9, od9, .func (PySem.W.fnOf "law" "law" (defArgs s_law) (defBody s_law) (defScope s_law) .none kV9 dc9 pm9 an9 cd9 ct9), sl9⟩) (c9 : PySem.W.codeIn K cd9 "law" = true) (k9 : PySem.W.keepIn K (.ref f9) = true)
    (z_range : PySem.W.nsIn K mainGlobals "range" = some none)
    (z_len : PySem.W.nsIn K mainGlobals "len" = some none)
    (z_sorted : PySem.W.nsIn K mainGlobals "sorted" = some none)
    (z_tuple : PySem.W.nsIn K mainGlobals "tuple" = some none)
    (z_sum : PySem.W.nsIn K mainGlobals "sum" = some none)
    (z_int : PySem.W.nsIn K mainGlobals "int" = some none)
    (z_all : PySem.W.nsIn K mainGlobals "all" = some none)
    (z_dict : PySem.W.nsIn K mainGlobals "dict" = some none)
    : ∃ fd : FuncData, (∀ (s : Shared) (v : Value), BindsTo s fd ⟨[v], []⟩ [("script", v)]) ∧ ∀ base : Heap, K.In base → base.Ns mainGlobals mg → FnD l.prog w K mg base 4 fa fd ["script"] DL.spLaw := by
  have e := hfa.symm.trans (PySem.W.mg_of X G a9)
  cases e
  have F0 := fun_mk (st := s_rim) l0 c0 k0
  have F1 := fun_mk (st := s_radius_of) l1 c1 k1
  have F2 := fun_mk (st := s_votes) l2 c2 k2
  have F3 := fun_mk (st := s_rims_in) l3 c3 k3
  have F4 := fun_mk (st := s_shared_cells) l4 c4 k4
  have F5 := fun_mk (st := s_is_barred) l5 c5 k5
  have F6 := fun_mk (st := s__law_number) l6 c6 k6
  have F7 := fun_mk (st := s__law_take) l7 c7 k7
  have F8 := fun_mk (st := s__law_unlike) l8 c8 k8
  have F9 := fun_mk (st := s_law) l9 c9 k9
  have B0 := F0.binds (ps := ["radius"]) fun _ _ _ _ _ _ us hl => match us, hl with | [_], _ => rfl
  have B1 := F1.binds (ps := ["x", "y"]) fun _ _ _ _ _ _ us hl => match us, hl with | [_, _], _ => rfl
  have B2 := F2.binds (ps := ["cells", "radii"]) fun _ _ _ _ _ _ us hl => match us, hl with | [_, _], _ => rfl
  have B3 := F3.binds (ps := ["cells", "radii", "missing"]) fun _ _ _ _ _ _ us hl => match us, hl with | [_, _, _], _ => rfl
  have B4 := F4.binds (ps := ["one", "other"]) fun _ _ _ _ _ _ us hl => match us, hl with | [_, _], _ => rfl
  have B5 := F5.binds (ps := ["place", "others", "missing"]) fun _ _ _ _ _ _ us hl => match us, hl with | [_, _, _], _ => rfl
  have B6 := F6.binds (ps := ["script", "index"]) fun _ _ _ _ _ _ us hl => match us, hl with | [_, _], _ => rfl
  have B7 := F7.binds (ps := ["draw", "many"]) fun _ _ _ _ _ _ us hl => match us, hl with | [_, _], _ => rfl
  have B8 := F8.binds (ps := ["items"]) fun _ _ _ _ _ _ us hl => match us, hl with | [_], _ => rfl
  have B9 := F9.binds (ps := ["script"]) fun _ _ _ _ _ _ us hl => match us, hl with | [_], _ => rfl
  let T : Txt K mg := ⟨_, _, F0, PySem.W.mg_of X G a0, B0,
    _, _, F1, PySem.W.mg_of X G a1, B1,
    _, _, F2, PySem.W.mg_of X G a2, B2,
    _, _, F3, PySem.W.mg_of X G a3, B3,
    _, _, F4, PySem.W.mg_of X G a4, B4,
    _, _, F5, PySem.W.mg_of X G a5, B5,
    _, _, F6, PySem.W.mg_of X G a6, B6,
    _, _, F7, PySem.W.mg_of X G a7, B7,
    _, _, F8, PySem.W.mg_of X G a8, B8,
    _, _, F9, PySem.W.mg_of X G a9, B9,
    PySem.W.mg_none_of X G z_range,
    PySem.W.mg_none_of X G z_len,
    PySem.W.mg_none_of X G z_sorted,
    PySem.W.mg_none_of X G z_tuple,
    PySem.W.mg_none_of X G z_sum,
    PySem.W.mg_none_of X G z_int,
    PySem.W.mg_none_of X G z_all,
    PySem.W.mg_none_of X G z_dict⟩
  refine ⟨PySem.W.fnOf "law" "law" (defArgs s_law) (defBody s_law) (defScope s_law) .none kV9 dc9 pm9 an9 cd9 ct9, fun s v => .of_eq rfl, fun base _ _ => ?_⟩
  have h_rim : FnD l.prog w K mg base 1 T.a_rim T.d_rim ["radius"] sp_rim := ok_rim T
  have h_radius_of : FnD l.prog w K mg base 1 T.a_radius_of T.d_radius_of ["x", "y"] sp_radius_of := ok_radius_of T
  have h_votes : FnD l.prog w K mg base 2 T.a_votes T.d_votes ["cells", "radii"] sp_votes := ok_votes T h_rim
  have h_rims_in : FnD l.prog w K mg base 3 T.a_rims_in T.d_rims_in ["cells", "radii", "missing"] sp_rims_in := ok_rims_in T h_rim h_votes
  have h_shared_cells : FnD l.prog w K mg base 2 T.a_shared_cells T.d_shared_cells ["one", "other"] sp_shared_cells := ok_shared_cells T h_rim
  have h_is_barred : FnD l.prog w K mg base 3 T.a_is_barred T.d_is_barred ["place", "others", "missing"] sp_is_barred := ok_is_barred T h_rim h_shared_cells
  have h__law_number : FnD l.prog w K mg base 1 T.a__law_number T.d__law_number ["script", "index"] sp__law_number := ok__law_number T
  have h__law_take : FnD l.prog w K mg base 2 T.a__law_take T.d__law_take ["draw", "many"] sp__law_take := ok__law_take T h__law_number
  have h__law_unlike : FnD l.prog w K mg base 1 T.a__law_unlike T.d__law_unlike ["items"] sp__law_unlike := ok__law_unlike T
  exact ok_law T h__law_take h__law_unlike h_is_barred h_radius_of h_rim h_rims_in h_shared_cells h_votes
end M
open PySem PySem.W PyProof.Rows in
set_option maxRecDepth 100000 in
set_option maxHeartbeats 0 in
theorem PySem.Challenge.cw_moonfall_k60_whole_rims_holds : PySem.Challenge.rw_moonfall_k60_whole_rims.Holds := by
  w_on; o_law; k_head; (case hw => w_witness2)
  k_fill
  refine DL.walk_d (l := PySem.Challenge.rw_moonfall_k60_whole_rims) (k := 4) (x := "script") rfl rfl ⟨rfl, by decide, by decide⟩ (fun w h Y => PySem.W.kIn_of Y) ?F
  case F =>
    intro w mg fa h KX G hmg
    refine' M.all_mk KX G hmg ?a0 ?l0 ?c0 ?k0 ?a1 ?l1 ?c1 ?k1 ?a2 ?l2 ?c2 ?k2 ?a3 ?l3 ?c3 ?k3 ?a4 ?l4 ?c4 ?k4 ?a5 ?l5 ?c5 ?k5 ?a6 ?l6 ?c6 ?k6 ?a7 ?l7 ?c7 ?k7 ?a8 ?l8 ?c8 ?k8 ?a9 ?l9 ?c9 ?k9 ?z_range ?z_len ?z_sorted ?z_tuple ?z_sum ?z_int ?z_all ?z_dict
    (case a0 => k_is)
    (case l0 => k_is)
    (case c0 => k_is)
    (case k0 => k_is)
    (case a1 => k_is)
    (case l1 => k_is)
    (case c1 => k_is)
    (case k1 => k_is)
    (case a2 => k_is)
    (case l2 => k_is)
    (case c2 => k_is)
    (case k2 => k_is)
    (case a3 => k_is)
    (case l3 => k_is)
    (case c3 => k_is)
    (case k3 => k_is)
    (case a4 => k_is)
    (case l4 => k_is)
    (case c4 => k_is)
    (case k4 => k_is)
    (case a5 => k_is)
    (case l5 => k_is)
    (case c5 => k_is)
    (case k5 => k_is)
    (case a6 => k_is)
    (case l6 => k_is)
    (case c6 => k_is)
    (case k6 => k_is)
    (case a7 => k_is)
    (case l7 => k_is)
    (case c7 => k_is)
    (case k7 => k_is)
    (case a8 => k_is)
    (case l8 => k_is)
    (case c8 => k_is)
    (case k8 => k_is)
    (case a9 => k_is)
    (case l9 => k_is)
    (case c9 => k_is)
    (case k9 => k_is)
    (case z_range => k_is)
    (case z_len => k_is)
    (case z_sorted => k_is)
    (case z_tuple => k_is)
    (case z_sum => k_is)
    (case z_int => k_is)
    (case z_all => k_is)
    (case z_dict => k_is)
