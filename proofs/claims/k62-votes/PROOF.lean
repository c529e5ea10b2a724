import PyProof.Rows.All
import Wide.All
import OpenK.AllK
import Wide.FinOn
import HandS.ForMost
import KE.KDictKeyed
import HandS.TupAny
import HandS.Style
import KE.SortData
import KE.DataCmp
import KE.DatumOrd
import PyProof.P3In
import HandS.TupLen
import HandS.Iter
import KE.KDictWalk
import HandS.DictComp
import KE.KDictPairs
import HandS.More
import KE.KDictCopyH
import KE.KDictSum
import HandS.Zip
import HandS.IsInst
import KE.GoesMore
import HandS.DictTup
import HandS.Star
import KE.KDictItemsList
import PyProof.Transfer
import HandS.Dict
import PySem.Challenge.RW_moonfall_k62_whole_votes
set_option Elab.async false
set_option linter.all false
set_option maxRecDepth 100000
set_option maxHeartbeats 4000000
/-! DL: a layer of plain data over HandS: values as trees, tracked objects by address. -/
namespace DL
open PySem PySem.Spec PyProof.Rows L2

/-! ### data -/
inductive Kd where
  | tup | lst | scr | ins (C : Addr) (fs : List Str) | dK (ks : List Key) | dN (ks : List NestedKey)
/-- a value as a tree; ref: an object that is tracked by its address (or one of the text) -/
inductive D where
  | non | bl (b : Bool) | int (i : Int) | str (x : Str) | ty (n : String) | ref (a : Addr)
  | nd (k : Kd) (ds : List D)
abbrev D.tup (ds : List D) : D := .nd .tup ds
abbrev D.lst (ds : List D) : D := .nd .lst ds
/-- what may change: it is held by its address -/
inductive DO where
  | lst (ds : List D) | dK (kvs : List (Key × D)) | dN (kvs : List (NestedKey × D)) | ins (C : Addr) (fs : List (Str × D))
abbrev DHp := Addr → Option DO
def up (G : DHp) (a : Addr) (o : DO) : DHp := fun b => if b = a then some o else G b
def dl (G : DHp) (a : Addr) : DHp := fun b => if b = a then none else G b
theorem up_same {G : DHp} {a : Addr} {o : DO} : up G a o a = some o := by unfold up; rw [if_pos rfl]
theorem up_ne {G : DHp} {a b : Addr} {o : DO} (h : b ≠ a) : up G a o b = G b := by unfold up; rw [if_neg h]
theorem dl_same {G : DHp} {a : Addr} : dl G a a = none := by unfold dl; rw [if_pos rfl]
theorem dl_ne {G : DHp} {a b : Addr} (h : b ≠ a) : dl G a b = G b := by unfold dl; rw [if_neg h]
theorem up_up {G : DHp} {a : Addr} {o u : DO} : up (up G a o) a u = up G a u := by funext b; unfold up; split <;> rfl
theorem dl_up {G : DHp} {a : Addr} {o : DO} (h : G a = none) : dl (up G a o) a = G := by
  funext b
  unfold dl up
  by_cases e : b = a
  · subst e; rw [if_pos rfl, h]
  · rw [if_neg e, if_neg e]
theorem up_comm {G : DHp} {a b : Addr} {o u : DO} (h : a ≠ b) : up (up G a o) b u = up (up G b u) a o := by
  funext c; simp only [up]
  by_cases e : c = a
  · subst e; simp [h]
  · simp [e]
theorem dl_up_ne {G : DHp} {a b : Addr} {o : DO} (h : a ≠ b) : dl (up G a o) b = up (dl G b) a o := by
  funext c; simp only [up, dl]
  by_cases e : c = a
  · subst e; simp [h]
  · simp [e]
theorem dl_none {G : DHp} {a : Addr} (h : G a = none) : dl G a = G := by
  funext c; unfold dl
  by_cases e : c = a
  · subst e; rw [if_pos rfl, h]
  · rw [if_neg e]
theorem ne_of_get {G : DHp} {a b : Addr} {o : DO} (h : G a = some o) (h' : G b = none) : a ≠ b := by
  intro e; subst e; rw [h] at h'; cases h'

/-- what is fixed: the written part, the world -/
structure Ml where
  K : PySem.W.Frag
  w : World
abbrev _root_.L2.Cx.ml (X : Cx) : Ml := ⟨X.K, X.w⟩
/-! a key as a tree -/
mutual
def nkD : NestedKey → D
  | .none => .non
  | .num i => .int i
  | .text x => .str x
  | .tup ks => .nd .tup (nkDs ks)
def nkDs : List NestedKey → List D
  | [] => []
  | k :: ks => nkD k :: nkDs ks
end
/-! a tree as a key -/
mutual
def D.key : D → Option NestedKey
  | .non => some .none
  | .int i => some (.num i)
  | .str x => some (.text x)
  | .nd .tup ds => (D.keys ds).map .tup
  | _ => none
def D.keys : List D → Option (List NestedKey)
  | [] => some []
  | d :: ds => match D.key d, D.keys ds with
    | some k, some ks => some (k :: ks)
    | _, _ => none
end
/-- an entry of a dict with nested keys -/
def entN (w : World) (x : NestedKey × Addr × Value) : DictEntry := ⟨x.1.hash w, .ref x.2.1, x.2.2⟩
/-- the object at a is a dict with just these entries -/
def rawO (a : Addr) (es : Array DictEntry) (ep : Nat) : HO := .ext fun h => h.DictRaw a es ep
section
variable (K : Ml) (H : Hp) (G : DHp)
mutual
def KeyAt : NestedKey → V → Prop
  | .none, v => v = .non
  | .num i, v => v = .int i
  | .text x, v => v = .str x
  | .tup ks, v => ∃ a vs, v = .ref a ∧ SqT K.K H a vs ∧ KeysAt ks vs
def KeysAt : List NestedKey → List V → Prop
  | [], vs => vs = []
  | k :: ks, vs => ∃ v r, vs = v :: r ∧ KeyAt k v ∧ KeysAt ks r
end
/-- a dict with nested keys ks and values vs at a -/
def DnAt (a : Addr) (ks : List NestedKey) (vs : List V) : Prop :=
  ∃ (xs : List (NestedKey × Addr × Value)) (es : Array DictEntry) (ep : Nat), H a = some (rawO a es ep) ∧ (a == sysModules) = false ∧ es.toList = xs.map (entN K.w) ∧ xs.map (·.1) = ks ∧ ks.Nodup ∧ ks.length ≤ sizeLine ∧
    (∀ x ∈ xs, KeyAt K H x.1 (.ref x.2.1) ∧ x.1.depth ≤ 8) ∧ Vals vs (xs.map (·.2.2))
/-- at a stands an object of the kind with the items vs -/
def Held : Kd → Addr → List V → Prop
  | .tup, a, vs => SqT K.K H a vs
  | .lst, a, vs => G a = none ∧ H a = some (.lst vs)
  | .scr, a, vs => (∃ o, H a = some (.frz o (.lst vs))) ∨
      ∃ (o : Obj) (its : Array Value) (n : Nat), K.K.lookup a = some o ∧ o.cls = .type "list" ∧ o.dict = none ∧ o.data = .seq its n ∧ its.size ≤ sizeLine ∧ Vals vs its.toList
  | .ins C fs, a, vs => G a = none ∧ fs.length = vs.length ∧ ∃ dx, H a = some (.ins C dx (fs.zip vs))
  | .dK ks, a, vs => ks.length = vs.length ∧ ∃ o, H a = some (.frz o (.dK (ks.zip vs)))
  | .dN ks, a, vs => G a = none ∧ DnAt K H a ks vs
mutual
def VR : D → V → Prop
  | .non, v => v = .non
  | .bl b, v => v = .bl b
  | .int i, v => v = .int i
  | .str x, v => v = .str x
  | .ty n, v => v = .ty n
  | .ref a, v => v = .ref a
  | .nd k ds, v => ∃ a vs, v = .ref a ∧ Held K H G k a vs ∧ VRs ds vs
def VRs : List D → List V → Prop
  | [], vs => vs = []
  | d :: ds, vs => ∃ v r, vs = v :: r ∧ VR d v ∧ VRs ds r
end
/-- a tracked object -/
def OR (a : Addr) : DO → Prop
  | .lst ds => ∃ vs, H a = some (.lst vs) ∧ VRs K H G ds vs
  | .dK kvs => ∃ ws, H a = some (.dK ws) ∧ ws.map (·.1) = kvs.map (·.1) ∧ VRs K H G (kvs.map (·.2)) (ws.map (·.2))
  | .dN kvs => ∃ ws, DnAt K H a (kvs.map (·.1)) ws ∧ VRs K H G (kvs.map (·.2)) ws
  | .ins C fs => ∃ dx ws, H a = some (.ins C dx ws) ∧ ws.map (·.1) = fs.map (·.1) ∧ VRs K H G (fs.map (·.2)) (ws.map (·.2))
def HR : Prop := ∀ a o, G a = some o → OR K H G a o
end

structure Ext (H : Hp) (G : DHp) (H' : Hp) (G' : DHp) : Prop where
  ex : ∀ a u, H a = some u → G a = none → H' a = some u ∧ G' a = none
theorem Ext.refl (H : Hp) (G : DHp) : Ext H G H G := ⟨fun _ _ h n => ⟨h, n⟩⟩
theorem Ext.trans {H G H1 G1 H2 G2} (a : Ext H G H1 G1) (b : Ext H1 G1 H2 G2) : Ext H G H2 G2 :=
  ⟨fun c u h n => let ⟨h1, n1⟩ := a.ex c u h n; b.ex c u h1 n1⟩

section
variable {K : Ml} {H H' : Hp} {G G' : DHp}
theorem OR.not_tup {a : Addr} {o : DO} (h : OR K H G a o) {vs : List V} : ¬ Rd H a (.tup vs) := by
  intro r
  cases o with
  | lst ds =>
    obtain ⟨_, e, _⟩ := h
    rcases r with r | ⟨_, r⟩ <;> rw [e] at r <;> cases r
  | dK ds =>
    obtain ⟨_, e, _⟩ := h
    rcases r with r | ⟨_, r⟩ <;> rw [e] at r <;> cases r
  | dN ds =>
    obtain ⟨_, ⟨_, _, _, e, _⟩, _⟩ := h
    rcases r with r | ⟨_, r⟩ <;> rw [e] at r <;> cases r
  | ins C fs =>
    obtain ⟨_, _, e, _⟩ := h
    rcases r with r | ⟨_, r⟩ <;> rw [e] at r <;> cases r
theorem OR.not_frz {a : Addr} {o : DO} (h : OR K H G a o) {ob : Obj} {u : HO} : H a ≠ .some (.frz ob u) := by
  intro r
  cases o with
  | lst ds =>
    obtain ⟨_, e, _⟩ := h
    rw [e] at r; cases r
  | dK ds =>
    obtain ⟨_, e, _⟩ := h
    rw [e] at r; cases r
  | dN ds =>
    obtain ⟨_, ⟨_, _, _, e, _⟩, _⟩ := h
    rw [e] at r; cases r
  | ins C fs =>
    obtain ⟨_, _, e, _⟩ := h
    rw [e] at r; cases r
theorem OR.some {a : Addr} {o : DO} (h : OR K H G a o) : ∃ u, H a = .some u := by
  cases o with
  | lst ds => obtain ⟨_, e, _⟩ := h; exact ⟨_, e⟩
  | dK ds => obtain ⟨_, e, _⟩ := h; exact ⟨_, e⟩
  | dN ds => obtain ⟨_, ⟨_, _, _, e, _⟩, _⟩ := h; exact ⟨_, e⟩
  | ins C fs => obtain ⟨_, _, e, _⟩ := h; exact ⟨_, e⟩
theorem HR.tup (h : HR K H G) {a : Addr} {vs : List V} (r : Rd H a (.tup vs)) : G a = none := by
  cases e : G a with
  | none => rfl
  | some o => exact absurd r (OR.not_tup (h a o e))
theorem HR.frz (h : HR K H G) {a : Addr} {ob : Obj} {u : HO} (r : H a = some (.frz ob u)) : G a = none := by
  cases e : G a with
  | none => rfl
  | some o => exact absurd r (OR.not_frz (h a o e))
theorem HR.free (h : HR K H G) {a : Addr} (r : H a = none) : G a = none := by
  cases e : G a with
  | none => rfl
  | some o => obtain ⟨u, q⟩ := OR.some (h a o e); rw [q] at r; cases r
mutual
theorem KeyAt.ext (hr : HR K H G) (x : Ext H G H' G') : ∀ {k : NestedKey} {v : V}, KeyAt K H k v → KeyAt K H' k v
  | .none, _, h => by rw [KeyAt] at h ⊢; exact h
  | .num _, _, h => by rw [KeyAt] at h ⊢; exact h
  | .text _, _, h => by rw [KeyAt] at h ⊢; exact h
  | .tup ks, _, h => by
    rw [KeyAt] at h ⊢
    obtain ⟨a, vs, e, q, r⟩ := h
    refine ⟨a, vs, e, ?_, KeysAt.ext hr x r⟩
    rcases q with (h | ⟨o, h⟩) | h
    · exact .inl (.inl (x.ex _ _ h (hr.tup (.inl h))).1)
    · exact .inl (.inr ⟨o, (x.ex _ _ h (hr.frz h)).1⟩)
    · exact .inr h
theorem KeysAt.ext (hr : HR K H G) (x : Ext H G H' G') : ∀ {k : List NestedKey} {v : List V}, KeysAt K H k v → KeysAt K H' k v
  | [], _, h => by rw [KeysAt] at h ⊢; exact h
  | k :: ks, _, h => by
    rw [KeysAt] at h ⊢
    obtain ⟨v, r, e, q, t⟩ := h
    exact ⟨v, r, e, KeyAt.ext hr x q, KeysAt.ext hr x t⟩
end
theorem DnAt.ext (hr : HR K H G) (x : Ext H G H' G') {a : Addr} {ks : List NestedKey} {vs : List V} (h : DnAt K H a ks vs) (e : H' a = H a) : DnAt K H' a ks vs := by
  obtain ⟨xs, es, ep, h1, h2, h3, h4, h5, h6, h7, h8⟩ := h
  exact ⟨xs, es, ep, e.trans h1, h2, h3, h4, h5, h6, fun y hy => ⟨(h7 y hy).1.ext hr x, (h7 y hy).2⟩, h8⟩
theorem Held.ext (hr : HR K H G) (x : Ext H G H' G') {k : Kd} {a : Addr} {vs : List V} (h : Held K H G k a vs) : Held K H' G' k a vs := by
  cases k with
  | tup =>
    rcases h with (h | ⟨o, h⟩) | h
    · exact .inl (.inl (x.ex _ _ h (hr.tup (.inl h))).1)
    · exact .inl (.inr ⟨o, (x.ex _ _ h (hr.frz h)).1⟩)
    · exact .inr h
  | lst =>
    obtain ⟨n, r⟩ := h
    obtain ⟨r', n'⟩ := x.ex _ _ r n
    exact ⟨n', r'⟩
  | scr =>
    rcases h with ⟨o, h⟩ | h
    · exact .inl ⟨o, (x.ex _ _ h (hr.frz h)).1⟩
    · exact .inr h
  | ins C fs =>
    obtain ⟨n, l, dx, r⟩ := h
    obtain ⟨r', n'⟩ := x.ex _ _ r n
    exact ⟨n', l, dx, r'⟩
  | dK ks =>
    obtain ⟨l, o, r⟩ := h
    exact ⟨l, o, (x.ex _ _ r (hr.frz r)).1⟩
  | dN ks =>
    obtain ⟨n, r⟩ := h
    obtain ⟨xs, es, ep, h1, _⟩ := id r
    obtain ⟨e, n'⟩ := x.ex _ _ h1 n
    exact ⟨n', r.ext hr x (e.trans h1.symm)⟩
mutual
theorem VR.ext (hr : HR K H G) (x : Ext H G H' G') : ∀ {d : D} {v : V}, VR K H G d v → VR K H' G' d v
  | .non, _, h => by rw [VR] at h ⊢; exact h
  | .bl _, _, h => by rw [VR] at h ⊢; exact h
  | .int _, _, h => by rw [VR] at h ⊢; exact h
  | .str _, _, h => by rw [VR] at h ⊢; exact h
  | .ty _, _, h => by rw [VR] at h ⊢; exact h
  | .ref _, _, h => by rw [VR] at h ⊢; exact h
  | .nd k ds, _, h => by
    rw [VR] at h ⊢
    obtain ⟨a, vs, e, q, r⟩ := h
    exact ⟨a, vs, e, q.ext hr x, VRs.ext hr x r⟩
theorem VRs.ext (hr : HR K H G) (x : Ext H G H' G') : ∀ {ds : List D} {vs : List V}, VRs K H G ds vs → VRs K H' G' ds vs
  | [], _, h => by rw [VRs] at h ⊢; exact h
  | d :: ds, _, h => by
    rw [VRs] at h ⊢
    obtain ⟨v, r, e, q, t⟩ := h
    exact ⟨v, r, e, VR.ext hr x q, VRs.ext hr x t⟩
end
theorem VRs.nil : VRs K H G [] [] := by rw [VRs]
theorem VRs.cons {d : D} {ds : List D} {v : V} {vs : List V} (h : VR K H G d v) (t : VRs K H G ds vs) : VRs K H G (d :: ds) (v :: vs) := by
  rw [VRs]; exact ⟨v, vs, rfl, h, t⟩
theorem VRs.uncons {d : D} {ds : List D} {vs : List V} (h : VRs K H G (d :: ds) vs) : ∃ v r, vs = v :: r ∧ VR K H G d v ∧ VRs K H G ds r := by
  rw [VRs] at h; exact h
theorem VRs.nil_of {vs : List V} (h : VRs K H G [] vs) : vs = [] := by rw [VRs] at h; exact h
theorem VRs.length : ∀ {ds : List D} {vs : List V}, VRs K H G ds vs → vs.length = ds.length
  | [], _, h => by rw [h.nil_of]; rfl
  | d :: ds, _, h => by
    obtain ⟨v, r, rfl, _, t⟩ := h.uncons
    rw [List.length_cons, List.length_cons, VRs.length t]
theorem VRs.append : ∀ {ds es : List D} {vs ws : List V}, VRs K H G ds vs → VRs K H G es ws → VRs K H G (ds ++ es) (vs ++ ws)
  | [], _, _, _, h, q => by rw [h.nil_of]; exact q
  | d :: ds, _, _, _, h, q => by
    obtain ⟨v, r, rfl, x, t⟩ := h.uncons
    exact .cons x (VRs.append t q)
theorem VRs.get : ∀ {ds : List D} {vs : List V} {i : Nat} {d : D}, VRs K H G ds vs → ds[i]? = some d → ∃ v, vs[i]? = some v ∧ VR K H G d v
  | [], _, _, _, _, e => by simp at e
  | d :: ds, _, 0, _, h, e => by
    obtain ⟨v, r, rfl, x, t⟩ := h.uncons
    simp at e; subst e
    exact ⟨v, rfl, x⟩
  | d :: ds, _, i + 1, _, h, e => by
    obtain ⟨v, r, rfl, x, t⟩ := h.uncons
    obtain ⟨u, e1, q⟩ := VRs.get (i := i) t (by simpa using e)
    exact ⟨u, by simpa using e1, q⟩
theorem VRs.getV {ds : List D} {vs : List V} {i : Nat} {v : V} (h : VRs K H G ds vs) (e : vs[i]? = some v) : ∃ d, ds[i]? = some d ∧ VR K H G d v := by
  have hl := h.length
  have hi : i < ds.length := by rw [← hl]; exact (List.getElem?_eq_some_iff.mp e).1
  obtain ⟨u, e1, q⟩ := h.get (i := i) (d := ds[i]) (by simp [hi])
  rw [e] at e1; cases e1
  exact ⟨_, by simp [hi], q⟩
theorem VRs.take : ∀ {ds : List D} {vs : List V} (n : Nat), VRs K H G ds vs → VRs K H G (ds.take n) (vs.take n)
  | _, _, 0, _ => by rw [List.take_zero, List.take_zero]; exact .nil
  | [], _, n + 1, h => by rw [h.nil_of]; exact .nil
  | d :: ds, _, n + 1, h => by
    obtain ⟨v, r, rfl, x, t⟩ := h.uncons
    exact .cons x (VRs.take n t)
theorem VRs.drop : ∀ {ds : List D} {vs : List V} (n : Nat), VRs K H G ds vs → VRs K H G (ds.drop n) (vs.drop n)
  | _, _, 0, h => by rw [List.drop_zero, List.drop_zero]; exact h
  | [], _, n + 1, h => by rw [h.nil_of]; exact .nil
  | d :: ds, _, n + 1, h => by
    obtain ⟨v, r, rfl, x, t⟩ := h.uncons
    exact VRs.drop n t
theorem VRs.set : ∀ {ds : List D} {vs : List V} {d : D} {v : V} (i : Nat), VRs K H G ds vs → VR K H G d v → VRs K H G (ds.set i d) (vs.set i v)
  | [], _, _, _, i, h, _ => by rw [h.nil_of]; exact .nil
  | d :: ds, _, _, _, 0, h, q => by
    obtain ⟨v, r, rfl, x, t⟩ := h.uncons
    exact .cons q t
  | d :: ds, _, _, _, i + 1, h, q => by
    obtain ⟨v, r, rfl, x, t⟩ := h.uncons
    exact .cons x (VRs.set i t q)
theorem VRs.eraseIdx : ∀ {ds : List D} {vs : List V} (i : Nat), VRs K H G ds vs → VRs K H G (ds.eraseIdx i) (vs.eraseIdx i)
  | [], _, i, h => by rw [h.nil_of]; exact .nil
  | d :: ds, _, 0, h => by
    obtain ⟨v, r, rfl, x, t⟩ := h.uncons
    exact t
  | d :: ds, _, i + 1, h => by
    obtain ⟨v, r, rfl, x, t⟩ := h.uncons
    exact .cons x (VRs.eraseIdx i t)
theorem VRs.dropLast {ds : List D} {vs : List V} (h : VRs K H G ds vs) : VRs K H G ds.dropLast vs.dropLast := by
  rw [List.dropLast_eq_take, List.dropLast_eq_take, h.length]
  exact h.take _
theorem VRs.reverse : ∀ {ds : List D} {vs : List V}, VRs K H G ds vs → VRs K H G ds.reverse vs.reverse
  | [], _, h => by rw [h.nil_of]; exact .nil
  | d :: ds, _, h => by
    obtain ⟨v, r, rfl, x, t⟩ := h.uncons
    rw [List.reverse_cons, List.reverse_cons]
    exact (VRs.reverse t).append (.cons x .nil)
/-- ints, texts, bools: what they stand for -/
theorem VRs.of_map {α : Type} (f : α → D) (g : α → V) (h : ∀ a, VR K H G (f a) (g a)) : ∀ xs : List α, VRs K H G (xs.map f) (xs.map g)
  | [] => .nil
  | x :: xs => .cons (h x) (VRs.of_map f g h xs)
theorem VRs.map_eq {α : Type} (f : α → D) (g : α → V) (h : ∀ a v, VR K H G (f a) v → v = g a) : ∀ {xs : List α} {vs : List V}, VRs K H G (xs.map f) vs → vs = xs.map g
  | [], _, q => q.nil_of
  | x :: xs, _, q => by
    obtain ⟨v, r, rfl, a, t⟩ := VRs.uncons q
    rw [List.map_cons, h x v a, VRs.map_eq f g h t]
theorem VRs.ints {ns : List Int} {vs : List V} (h : VRs K H G (ns.map D.int) vs) : vs = ns.map V.int :=
  h.map_eq _ _ fun a v q => by rw [VR] at q; exact q
theorem VRs.of_ints (ns : List Int) : VRs K H G (ns.map D.int) (ns.map V.int) := VRs.of_map _ _ (fun a => by rw [VR]) ns

/-! ### steps of the two heaps -/
/-- a new object that is not tracked -/
theorem Ext.laid {p : Addr} {o : HO} (hp : H p = none) : Ext H G (upd H p o) G :=
  ⟨fun a u h n => ⟨by rw [upd_ne (ne_of_none h hp)]; exact h, n⟩⟩
theorem OR.ext (hr : HR K H G) (x : Ext H G H' G') {a : Addr} {o : DO} (e : H' a = H a) (h : OR K H G a o) : OR K H' G' a o := by
  cases o with
  | lst ds => obtain ⟨vs, q, r⟩ := h; exact ⟨vs, e.trans q, r.ext hr x⟩
  | dK ds => obtain ⟨vs, q, z, r⟩ := h; exact ⟨vs, e.trans q, z, r.ext hr x⟩
  | dN ds => obtain ⟨vs, q, r⟩ := h; exact ⟨vs, q.ext hr x e, r.ext hr x⟩
  | ins C fs => obtain ⟨dx, vs, q, z, r⟩ := h; exact ⟨dx, vs, e.trans q, z, r.ext hr x⟩
theorem HR.laid (hr : HR K H G) {p : Addr} {o : HO} (hp : H p = none) : HR K (upd H p o) G := fun a u e => by
  have h := hr a u e
  obtain ⟨z, hz⟩ := h.some
  exact h.ext hr (.laid hp) (upd_ne (ne_of_none hz hp))
/-- a new tracked object -/
theorem Ext.new {p : Addr} {o : HO} {u : DO} (hp : H p = none) : Ext H G (upd H p o) (up G p u) :=
  ⟨fun a v h n => ⟨by rw [upd_ne (ne_of_none h hp)]; exact h, by rw [up_ne (ne_of_none h hp)]; exact n⟩⟩
theorem HR.new (hr : HR K H G) {p : Addr} {o : HO} {u : DO} (hp : H p = none) (h : OR K (upd H p o) (up G p u) p u) : HR K (upd H p o) (up G p u) := fun a w e => by
  by_cases q : a = p
  · subst q; rw [up_same] at e; cases e; exact h
  · rw [up_ne q] at e
    exact (hr a w e).ext hr (.new hp) (upd_ne q)
/-- a tracked object changes -/
theorem Ext.write {p : Addr} {o : HO} {u w : DO} (hp : G p = some w) : Ext H G (upd H p o) (up G p u) :=
  ⟨fun a v h n => by
    have e : a ≠ p := fun e => by rw [e, hp] at n; cases n
    exact ⟨by rw [upd_ne e]; exact h, by rw [up_ne e]; exact n⟩⟩
theorem HR.write (hr : HR K H G) {p : Addr} {o : HO} {u w : DO} (hp : G p = some w) (h : OR K (upd H p o) (up G p u) p u) : HR K (upd H p o) (up G p u) := fun a z e => by
  by_cases q : a = p
  · subst q; rw [up_same] at e; cases e; exact h
  · rw [up_ne q] at e
    exact (hr a z e).ext hr (.write hp) (upd_ne q)
/-- tracked no more: from now on it is read alone -/
theorem Ext.freeze {p : Addr} : Ext H G H (dl G p) :=
  ⟨fun a v h n => ⟨h, by
    by_cases e : a = p
    · rw [e, dl_same]
    · rw [dl_ne e]; exact n⟩⟩
theorem HR.freeze (hr : HR K H G) (p : Addr) : HR K H (dl G p) := fun a z e => by
  by_cases q : a = p
  · subst q; rw [dl_same] at e; cases e
  · rw [dl_ne q] at e
    exact (hr a z e).ext hr .freeze rfl
/-- .. a dict: locked -/
theorem Ext.freezeD {p : Addr} {o : HO} {w : DO} (hp : G p = some w) : Ext H G (upd H p o) (dl G p) :=
  ⟨fun a v h n => by
    have e : a ≠ p := fun e => by rw [e, hp] at n; cases n
    exact ⟨by rw [upd_ne e]; exact h, by rw [dl_ne e]; exact n⟩⟩
theorem HR.freezeD (hr : HR K H G) {p : Addr} {o : HO} {w : DO} (hp : G p = some w) : HR K (upd H p o) (dl G p) := fun a z e => by
  by_cases q : a = p
  · subst q; rw [dl_same] at e; cases e
  · rw [dl_ne q] at e
    exact (hr a z e).ext hr (.freezeD hp) (upd_ne q)
/-- the tree of an object that is tracked no more -/
def DO.tree : DO → D
  | .lst ds => .lst ds
  | .dK kvs => .nd (.dK (kvs.map (·.1))) (kvs.map (·.2))
  | .dN kvs => .nd (.dN (kvs.map (·.1))) (kvs.map (·.2))
  | .ins C fs => .nd (.ins C (fs.map (·.1))) (fs.map (·.2))
theorem zip_maps {α β : Type} : ∀ l : List (α × β), (l.map (·.1)).zip (l.map (·.2)) = l
  | [] => rfl
  | (a, b) :: l => by simp [zip_maps l]
/-- what stands at p behind the freezing: a dict is locked -/
def Fz (H H' : Hp) (p : Addr) : DO → Prop
  | .dK _ => ∃ u od, H p = some u ∧ Mut (some u) ∧ H' = upd H p (.frz od u)
  | _ => H' = H
theorem HR.tree (hr : HR K H G) {p : Addr} {o : DO} (h : G p = some o) (f : Fz H H' p o) : VR K H' (dl G p) o.tree (.ref p) ∧ Ext H G H' (dl G p) ∧ HR K H' (dl G p) := by
  have q := hr p o h
  cases o with
  | lst ds =>
    obtain rfl : H' = H := f
    obtain ⟨vs, e, r⟩ := q
    refine ⟨?_, .freeze, hr.freeze p⟩
    show VR K H' (dl G p) (.nd .lst ds) _
    rw [VR]
    exact ⟨p, vs, rfl, ⟨dl_same, e⟩, r.ext hr .freeze⟩
  | dK kvs =>
    obtain ⟨ws, e, z, r⟩ := q
    obtain ⟨u, od, hu, _, rfl⟩ := f
    rw [e] at hu; cases hu
    refine ⟨?_, .freezeD h, hr.freezeD h⟩
    show VR K _ (dl G p) (.nd (.dK _) _) _
    rw [VR]
    refine ⟨p, _, rfl, ⟨by rw [← z]; simp, od, ?_⟩, r.ext hr (.freezeD h)⟩
    rw [← z, zip_maps, upd_same]
  | dN kvs =>
    obtain rfl : H' = H := f
    obtain ⟨ws, e, r⟩ := q
    refine ⟨?_, .freeze, hr.freeze p⟩
    show VR K H' (dl G p) (.nd (.dN _) _) _
    rw [VR]
    exact ⟨p, ws, rfl, ⟨dl_same, e⟩, r.ext hr .freeze⟩
  | ins C fs =>
    obtain rfl : H' = H := f
    obtain ⟨dx, ws, e, z, r⟩ := q
    refine ⟨?_, .freeze, hr.freeze p⟩
    show VR K H' (dl G p) (.nd (.ins C _) _) _
    rw [VR]
    refine ⟨p, _, rfl, ⟨dl_same, by rw [← z]; simp, dx, ?_⟩, r.ext hr .freeze⟩
    rw [← z, zip_maps]; exact e
end

/-! ### states -/
abbrev DSt := List (Option D)
def SR (K : Ml) (H : Hp) (G : DHp) (σ : L2.St) (η : DSt) : Prop := η.length = σ.length ∧ ∀ (i : Nat) (d : D), η[i]? = some (some d) → ∃ v, σ[i]? = some (some v) ∧ VR K H G d v
section
variable {K : Ml} {H H' : Hp} {G G' : DHp} {σ : L2.St} {η η' : DSt}
theorem SR.ext (hr : HR K H G) (x : Ext H G H' G') (h : SR K H G σ η) : SR K H' G' σ η :=
  ⟨h.1, fun i d e => let ⟨v, q, r⟩ := h.2 i d e; ⟨v, q, r.ext hr x⟩⟩
theorem SR.set (h : SR K H G σ η) {d : D} {v : V} (i : Nat) (r : VR K H G d v) : SR K H G (σ.set i (some v)) (η.set i (some d)) := by
  refine ⟨by rw [List.length_set, List.length_set, h.1], fun j e q => ?_⟩
  by_cases hj : i = j
  · subst hj
    by_cases hl : i < η.length
    · rw [List.getElem?_set_self hl] at q
      cases q
      exact ⟨v, by rw [List.getElem?_set_self (by rw [← h.1]; exact hl)], r⟩
    · rw [List.getElem?_eq_none (by rw [List.length_set]; omega)] at q; cases q
  · rw [List.getElem?_set_ne hj] at q
    obtain ⟨u, a, b⟩ := h.2 j e q
    exact ⟨u, by rw [List.getElem?_set_ne hj]; exact a, b⟩
/-- less is known -/
def Le (η η' : DSt) : Prop := η.length = η'.length ∧ ∀ (i : Nat) (d : D), η[i]? = some (some d) → η'[i]? = some (some d)
theorem Le.refl (η : DSt) : Le η η := ⟨rfl, fun _ _ h => h⟩
theorem SR.le (h : SR K H G σ η') (l : Le η η') : SR K H G σ η := ⟨l.1.trans h.1, fun i d e => h.2 i d (l.2 i d e)⟩
theorem SR.none (h : SR K H G σ η) (i : Nat) (o : Option V) : SR K H G (σ.set i o) (η.set i Option.none) := by
  refine ⟨by rw [List.length_set, List.length_set, h.1], fun j e q => ?_⟩
  by_cases hj : i = j
  · subst hj
    by_cases hl : i < η.length
    · rw [List.getElem?_set_self hl] at q; cases q
    · rw [List.getElem?_eq_none (by rw [List.length_set]; omega)] at q; cases q
  · rw [List.getElem?_set_ne hj] at q
    obtain ⟨u, a, b⟩ := h.2 j e q
    exact ⟨u, by rw [List.getElem?_set_ne hj]; exact a, b⟩
theorem Le.nil : Le [] [] := Le.refl _
theorem Le.keep {o : Option D} {η η' : DSt} (h : Le η η') : Le (o :: η) (o :: η') :=
  ⟨by rw [List.length_cons, List.length_cons, h.1], fun i d e => by
    cases i with
    | zero => simpa using e
    | succ i => simpa using h.2 i d (by simpa using e)⟩
theorem Le.drop {o : Option D} {η η' : DSt} (h : Le η η') : Le (none :: η) (o :: η') :=
  ⟨by rw [List.length_cons, List.length_cons, h.1], fun i d e => by
    cases i with
    | zero => simp at e
    | succ i => simpa using h.2 i d (by simpa using e)⟩
end
end DL
namespace DL
open PySem PySem.Spec PyProof.Rows L2

/-! ### readings over trees -/
abbrev DVK := D → DHp → Prop
abbrev DTE := DSt → DHp → DVK → Prop
abbrev DTT := DSt → DHp → (Bool → DHp → Prop) → Prop
abbrev DTA := DSt → DHp → (List D → DHp → Prop) → Prop
structure DEnds where
  nx : DSt → DHp → Prop
  rt : DVK
  bk : DSt → DHp → Prop := fun _ _ => False
  ct : DSt → DHp → Prop := fun _ _ => False
abbrev DTS := DEnds → DSt → DHp → Prop
abbrev DTG := D → DSt → DHp → (DSt → DHp → Prop) → Prop
abbrev DTGs := List D → DSt → DHp → (DSt → DHp → Prop) → Prop

def liftE (K : Ml) (T : DTE) : TE := fun σ H Q => ∃ η G P, SR K H G σ η ∧ HR K H G ∧ T η G P ∧ ∀ d G' v H', P d G' → Ext H G H' G' → HR K H' G' → VR K H' G' d v → Q v H'
def liftT (K : Ml) (T : DTT) : TT := fun σ H Q => ∃ η G P, SR K H G σ η ∧ HR K H G ∧ T η G P ∧ ∀ b G' H', P b G' → Ext H G H' G' → HR K H' G' → Q b H'
def liftA (K : Ml) (T : DTA) : TA := fun σ H Q => ∃ η G P, SR K H G σ η ∧ HR K H G ∧ T η G P ∧ ∀ ds G' vs H', P ds G' → Ext H G H' G' → HR K H' G' → VRs K H' G' ds vs → Q vs H'
structure EndsR (K : Ml) (H : Hp) (G : DHp) (F : DEnds) (E : Ends) : Prop where
  nx : ∀ η G' σ H', F.nx η G' → Ext H G H' G' → SR K H' G' σ η → HR K H' G' → E.nx σ H'
  rt : ∀ d G' v H', F.rt d G' → Ext H G H' G' → HR K H' G' → VR K H' G' d v → E.rt v H'
  bk : ∀ η G' σ H', F.bk η G' → Ext H G H' G' → SR K H' G' σ η → HR K H' G' → E.bk σ H'
  ct : ∀ η G' σ H', F.ct η G' → Ext H G H' G' → SR K H' G' σ η → HR K H' G' → E.ct σ H'
theorem EndsR.ext {K H G H1 G1 F E} (h : EndsR K H G F E) (x : Ext H G H1 G1) : EndsR K H1 G1 F E :=
  ⟨fun η G' σ H' p y s r => h.nx η G' σ H' p (x.trans y) s r, fun d G' v H' p y r q => h.rt d G' v H' p (x.trans y) r q, fun η G' σ H' p y s r => h.bk η G' σ H' p (x.trans y) s r, fun η G' σ H' p y s r => h.ct η G' σ H' p (x.trans y) s r⟩
def liftS (K : Ml) (T : DTS) : TS := fun E σ H => ∃ η G F, SR K H G σ η ∧ HR K H G ∧ T F η G ∧ EndsR K H G F E
/-- is: the slots that a target may change -/
def liftG (K : Ml) (is : List Nat) (T : DTG) : TG := fun v σ H Q => ∃ d η G P, VR K H G d v ∧ SR K H G σ η ∧ HR K H G ∧ T d η G P ∧ ∀ η' G' σ' H', P η' G' → Ext H G H' G' → SR K H' G' σ' η' → HR K H' G' → wipe σ' is = wipe σ is → Q σ' H'
def liftGs (K : Ml) (is : List Nat) (T : DTGs) : TGs := fun vs σ H Q => ∃ ds η G P, VRs K H G ds vs ∧ SR K H G σ η ∧ HR K H G ∧ T ds η G P ∧ ∀ η' G' σ' H', P η' G' → Ext H G H' G' → SR K H' G' σ' η' → HR K H' G' → wipe σ' is = wipe σ is → Q σ' H'

abbrev PED (X : Cx) (e : Expr) (T : DTE) : Prop := PE X e (liftE X.ml T)
abbrev PTD (X : Cx) (e : Expr) (T : DTT) : Prop := PT X e (liftT X.ml T)
abbrev PWD (X : Cx) (e : Expr) (T : DTT) : Prop := PW X e (liftT X.ml T)
abbrev PAD (X : Cx) (es : List Expr) (T : DTA) : Prop := PA X es (liftA X.ml T)
abbrev PSD (X : Cx) (st : Stmt) (T : DTS) : Prop := PS X st (liftS X.ml T)
abbrev PSsD (X : Cx) (st : List Stmt) (T : DTS) : Prop := PSs X st (liftS X.ml T)
abbrev PGD (X : Cx) (e : Expr) (is : List Nat) (T : DTG) : Prop := PG X e (liftG X.ml is T)
abbrev PGsD (X : Cx) (es : List Expr) (is : List Nat) (T : DTGs) : Prop := PGs X es (liftGs X.ml is T)

section
variable {X : Cx}
theorem PE.impI {e : Expr} {t t' : TE} (h : PE X e t) (i : ∀ pins s σ H Q, Inv X pins σ H s → t' σ H Q → t σ H Q) : PE X e t' := ⟨fun pins s σ H Q I q => h.run pins s σ H Q I (i _ _ _ _ _ I q)⟩
theorem PT.impI {e : Expr} {t t' : TT} (h : PT X e t) (i : ∀ pins s σ H Q, Inv X pins σ H s → t' σ H Q → t σ H Q) : PT X e t' := ⟨fun pins s σ H Q I q => h.run pins s σ H Q I (i _ _ _ _ _ I q)⟩
theorem PW.impI {e : Expr} {t t' : TT} (h : PW X e t) (i : ∀ pins s σ H Q, Inv X pins σ H s → t' σ H Q → t σ H Q) : PW X e t' := ⟨fun w pins s σ H Q I q => h.run w pins s σ H Q I (i _ _ _ _ _ I q)⟩
theorem PA.impI {es : List Expr} {t t' : TA} (h : PA X es t) (i : ∀ pins s σ H Q, Inv X pins σ H s → t' σ H Q → t σ H Q) : PA X es t' := ⟨fun w pins s σ H Q I q => h.run w pins s σ H Q I (i _ _ _ _ _ I q)⟩
theorem PS.impI {e : Stmt} {t t' : TS} (h : PS X e t) (i : ∀ pins s σ H E, Inv X pins σ H s → t' E σ H → t E σ H) : PS X e t' := ⟨fun pins s σ H E I q => h.run pins s σ H E I (i _ _ _ _ _ I q)⟩
theorem PSs.impI {e : List Stmt} {t t' : TS} (h : PSs X e t) (i : ∀ pins s σ H E, Inv X pins σ H s → t' E σ H → t E σ H) : PSs X e t' := ⟨fun pins s σ H E I q => h.run pins s σ H E I (i _ _ _ _ _ I q)⟩
theorem PG.impI {e : Expr} {t t' : TG} (h : PG X e t) (i : ∀ pins s σ H v Q, Inv X pins σ H s → t' v σ H Q → t v σ H Q) : PG X e t' := ⟨fun pins s σ H v u Q I r q => h.run pins s σ H v u Q I r (i _ _ _ _ _ _ I q)⟩
theorem PGs.impI {e : List Expr} {t t' : TGs} (h : PGs X e t) (i : ∀ pins s σ H v Q, Inv X pins σ H s → t' v σ H Q → t v σ H Q) : PGs X e t' := ⟨fun pins s σ H v u Q I r q => h.run pins s σ H v u Q I r (i _ _ _ _ _ _ I q)⟩
theorem Inv.noK {pins : List (Addr × Obj)} {σ : L2.St} {H : Hp} {s : Shared} (I : Inv X pins σ H s) {a : Addr} {o : Obj} (h : X.K.lookup a = some o) : H a = none :=
  (I.bs a o (I.ok.mod.kin a o h)).2

/-! ### names, constants -/
def dName (i : Nat) : DTE := fun η G Q => match η[i]? with
  | some (some d) => Q d G
  | _ => False
theorem ped_name (i : Nat) {x : Str} {pos : Pos} (hN : X.N[i]? = some x := by rfl) (hv : Vis X.env.scope x := by first | exact Or.inl rfl | exact Or.inr (Or.inl rfl) | exact Or.inr (Or.inr rfl)) (hd : (x == ("__debug__" : Str)) = false := by decide)
    (hcd : (x == ("__classdict__" : Str)) = false := by decide) : PED X (.Name x pos) (dName i) :=
  PE.impI (pe_var hN hv hd hcd) fun pins s σ H Q I ⟨η, G, P, hs, hr, t, k⟩ => by
    unfold dName at t
    split at t
    · rename_i d e
      obtain ⟨v, q, r⟩ := hs.2 i d e
      exact ⟨v, q, k d G v H t (.refl _ _) hr r⟩
    · exact t.elim
def dC (d : D) : DTE := fun _ G Q => Q d G
theorem ped_c {e : Expr} {d : D} {v : V} (h : PE X e (tC v)) (r : ∀ H G, VR X.ml H G d v) : PED X e (dC d) :=
  PE.impI h fun pins s σ H Q I ⟨η, G, P, hs, hr, t, k⟩ => k d G v H t (.refl _ _) hr (r H G)
theorem ped_int {i : Int} {j pos} : PED X (.Constant (.int i) j pos) (dC (.int i)) := ped_c pe_int fun _ _ => by rw [VR]
theorem ped_bl {i : Bool} {j pos} : PED X (.Constant (.bool i) j pos) (dC (.bl i)) := ped_c pe_bl fun _ _ => by rw [VR]
theorem ped_str {i : Str} {j pos} : PED X (.Constant (.str i) j pos) (dC (.str i)) := ped_c pe_str fun _ _ => by rw [VR]
theorem ped_non {j pos} : PED X (.Constant .none j pos) (dC .non) := ped_c pe_non fun _ _ => by rw [VR]
theorem ped_gint {x : Str} {i : Int} {t : Tok} {pos : Pos} (hm : X.mg x = some (.int i t)) (hg : Gl X x := by rfl) (hd : (x == ("__debug__" : Str)) = false := by decide) : PED X (.Name x pos) (dC (.int i)) :=
  ped_c (pe_glob (v := .int i) hg hm ⟨t, rfl⟩ hd) fun _ _ => by rw [VR]
theorem ped_gstr {x y : Str} {t : Tok} {pos : Pos} (hm : X.mg x = some (.str y t)) (hg : Gl X x := by rfl) (hd : (x == ("__debug__" : Str)) = false := by decide) : PED X (.Name x pos) (dC (.str y)) :=
  ped_c (pe_glob (v := .str y) hg hm ⟨t, rfl⟩ hd) fun _ _ => by rw [VR]
theorem ped_gref {x : Str} {a : Addr} {pos : Pos} (hm : X.mg x = some (.ref a)) (hg : Gl X x := by rfl) (hd : (x == ("__debug__" : Str)) = false := by decide) : PED X (.Name x pos) (dC (.ref a)) :=
  ped_c (pe_glob (v := .ref a) hg hm rfl hd) fun _ _ => by rw [VR]
/-- a written tuple of the module -/
def KTup (K : Ml) (a : Addr) (d : D) : Prop := ∀ H G, VR K H G d (.ref a)
theorem ped_gtup {x : Str} {a : Addr} {d : D} {pos : Pos} (hm : X.mg x = some (.ref a)) (hk : KTup X.ml a d) (hg : Gl X x := by rfl) (hd : (x == ("__debug__" : Str)) = false := by decide) : PED X (.Name x pos) (dC d) :=
  ped_c (pe_glob (v := .ref a) hg hm rfl hd) hk
theorem ped_bltn {x : Str} {n : String} {pos : Pos} (hm : X.mg x = none) (hv : bootBuiltins x = some (.type n)) (hg : Gl X x := by rfl) (hn : x ≠ "__name__" := by decide) (hd : (x == ("__debug__" : Str)) = false := by decide) : PED X (.Name x pos) (dC (.ty n)) :=
  ped_c (pe_bltn (v := .ty n) hg hm hv rfl hn hd) fun _ _ => by rw [VR]

/-! ### arguments, displays -/
def dNil : DTA := fun _ G Q => Q [] G
def dCons (T : DTE) (R : DTA) : DTA := fun η G Q => T η G fun d G1 => R η G1 fun ds G2 => Q (d :: ds) G2
theorem pad_nil : PAD X [] dNil := PA.impI pa_nil fun pins s σ H Q I ⟨η, G, P, hs, hr, t, k⟩ => k [] G [] H t (.refl _ _) hr .nil
theorem pad_cons {e : Expr} {es : List Expr} {T : DTE} {R : DTA} (ha : PED X e T) (hb : PAD X es R) (hs : starEach (e :: es) X.env = (false, eval e X.env) :: starEach es X.env := by rfl) : PAD X (e :: es) (dCons T R) :=
  PA.impI (pa_cons ha hb hs) fun pins s σ H Q I ⟨η, G, P, hs, hr, t, k⟩ =>
    ⟨η, G, _, hs, hr, t, fun d1 G1 v1 H1 p1 x1 r1 q1 => ⟨η, G1, _, hs.ext hr x1, r1, p1, fun ds G2 vs H2 p2 x2 r2 q2 => k (d1 :: ds) G2 (v1 :: vs) H2 p2 (x1.trans x2) r2 (.cons (q1.ext r1 x2) q2)⟩⟩
/-- a tuple -/
def dTup (T : DTA) : DTE := fun η G Q => T η G fun ds G1 => ds.length ≤ 1000 ∧ Q (.nd .tup ds) G1
theorem le1000 {n : Nat} (h : n ≤ 1000) : n ≤ sizeLine := Nat.le_trans h (by decide)
theorem ped_tup {es : List Expr} {x1 : Nat} {pos : Pos} {T : DTA} (h : PAD X es T) : PED X (.Tuple es x1 pos) (dTup T) :=
  PE.impI (pe_tup h) fun pins s σ H Q I ⟨η, G, P, hs, hr, t, k⟩ =>
    ⟨η, G, _, hs, hr, t, fun ds G1 vs H1 ⟨pl, p1⟩ x1 r1 q1 => ⟨by rw [q1.length]; exact le1000 pl, fun p hp => by
      have x2 : Ext H1 G1 (upd H1 p (.tup vs)) G1 := .laid hp
      refine k _ G1 (.ref p) _ p1 (x1.trans x2) (r1.laid hp) ?_
      rw [VR]
      exact ⟨p, vs, rfl, .inl (.inl upd_same), q1.ext r1 x2⟩⟩⟩
/-- a new list that is not changed later -/
def dLstF (T : DTA) : DTE := fun η G Q => T η G fun ds G1 => ds.length ≤ 1000 ∧ Q (.nd .lst ds) G1
theorem ped_lstF {es : List Expr} {pos : Pos} {T : DTA} (h : PAD X es T) : PED X (.List es pos) (dLstF T) :=
  PE.impI (pe_lst h) fun pins s σ H Q I ⟨η, G, P, hs, hr, t, k⟩ =>
    ⟨η, G, _, hs, hr, t, fun ds G1 vs H1 ⟨pl, p1⟩ x1 r1 q1 => ⟨by rw [q1.length]; exact le1000 pl, fun p hp => by
      have x2 : Ext H1 G1 (upd H1 p (.lst vs)) G1 := .laid hp
      refine k _ G1 (.ref p) _ p1 (x1.trans x2) (r1.laid hp) ?_
      rw [VR]
      exact ⟨p, vs, rfl, ⟨r1.free hp, upd_same⟩, q1.ext r1 x2⟩⟩⟩
/-- a new list that is changed later -/
def dLstM (T : DTA) : DTE := fun η G Q => T η G fun ds G1 => ds.length ≤ 1000 ∧ ∀ p, G1 p = none → Q (.ref p) (up G1 p (.lst ds))
theorem ped_lstM {es : List Expr} {pos : Pos} {T : DTA} (h : PAD X es T) : PED X (.List es pos) (dLstM T) :=
  PE.impI (pe_lst h) fun pins s σ H Q I ⟨η, G, P, hs, hr, t, k⟩ =>
    ⟨η, G, _, hs, hr, t, fun ds G1 vs H1 ⟨pl, p1⟩ x1 r1 q1 => ⟨by rw [q1.length]; exact le1000 pl, fun p hp => by
      have x2 : Ext H1 G1 (upd H1 p (.lst vs)) (up G1 p (.lst ds)) := .new hp
      refine k _ _ (.ref p) _ (p1 p (r1.free hp)) (x1.trans x2) (r1.new hp ⟨vs, upd_same, q1.ext r1 x2⟩) ?_
      rw [VR]⟩⟩

/-! ### operators -/
abbrev DR2 := D → D → DHp → DVK → Prop
def liftR2 (K : Ml) (r : DR2) : R2 := fun x y H Q => ∃ dx dy G P, HR K H G ∧ VR K H G dx x ∧ VR K H G dy y ∧ r dx dy G P ∧ ∀ d G' v H', P d G' → Ext H G H' G' → HR K H' G' → VR K H' G' d v → Q v H'
abbrev OpD (X : Cx) (f : Value → Value → Sem Value) (r : DR2) : Prop := OpR X f (liftR2 X.ml r)
def dOp (r : DR2) (Ta Tb : DTE) : DTE := fun η G Q => Ta η G fun x G1 => Tb η G1 fun y G2 => r x y G2 Q
theorem op_lift {r : DR2} {Ta Tb : DTE} {K : Ml} {σ : L2.St} {H : Hp} {Q : VK} (h : liftE K (dOp r Ta Tb) σ H Q) : tOp (liftR2 K r) (liftE K Ta) (liftE K Tb) σ H Q :=
  let ⟨η, G, P, hs, hr, t, k⟩ := h
  ⟨η, G, _, hs, hr, t, fun d1 G1 v1 H1 p1 x1 r1 q1 => ⟨η, G1, _, hs.ext hr x1, r1, p1, fun d2 G2 v2 H2 p2 x2 r2 q2 =>
    ⟨d1, d2, G2, P, r2, q1.ext r1 x2, q2, p2, fun d G' v H' p x r q => k d G' v H' p ((x1.trans x2).trans x) r q⟩⟩⟩
theorem ped_op {a b : Expr} {op : Operator} {pos : Pos} {r : DR2} {Ta Tb : DTE} (ho : OpD X (binaryOp op) r) (ha : PED X a Ta) (hb : PED X b Tb) : PED X (.BinOp a op b pos) (dOp r Ta Tb) :=
  PE.impI (pe_op ho ha hb) fun _ _ _ _ _ _ h => op_lift h
theorem ped_cmp {a b : Expr} {op : CmpOp} {pos : Pos} {r : DR2} {Ta Tb : DTE} (ho : OpD X (compareOp op) r) (ha : PED X a Ta) (hb : PED X b Tb) (hm : behindInMarks op b = false) : PED X (.Compare a [op] [b] pos) (dOp r Ta Tb) :=
  PE.impI (pe_cmpR ho ha hb hm) fun _ _ _ _ _ _ h => op_lift h
/-- a test by a truth value -/
def dTest (T : DTE) : DTT := fun η G Q => T η G fun d G1 => match d with
  | .bl b => Q b G1
  | _ => False
theorem test_lift {T : DTE} {K : Ml} {σ : L2.St} {H : Hp} {Q : Bool → Hp → Prop} (h : liftT K (dTest T) σ H Q) : tB (liftE K T) σ H Q := by
  obtain ⟨η, G, P, hs, hr, t, k⟩ := h
  refine ⟨η, G, _, hs, hr, t, fun d1 G1 v1 H1 p1 x1 r1 q1 => ?_⟩
  cases d1 with
  | bl b => rw [VR] at q1; exact ⟨b, q1, k b G1 H1 p1 x1 r1⟩
  | _ => exact p1.elim
theorem ptd_cmp {a b : Expr} {op : CmpOp} {pos : Pos} {r : DR2} {Ta Tb : DTE} (ho : OpD X (compareOp op) r) (ha : PED X a Ta) (hb : PED X b Tb) (hm : behindInMarks op b = false) : PTD X (.Compare a [op] [b] pos) (dTest (dOp r Ta Tb)) :=
  PT.impI (pt_cmpR ho ha hb hm) fun _ _ σ H Q _ h => by
    have h2 := test_lift h
    obtain ⟨η, G, P, hs, hr, t, k⟩ := h2
    exact op_lift ⟨η, G, P, hs, hr, t, k⟩
theorem ptd_val {e : Expr} {T : DTE} (h : PED X e T) (he : ∀ whole, isTrue e X.env whole = (do let v ← whole; standAt e.pos; holding [v] (truthy v)) := by intro _; rfl) : PTD X e (dTest T) :=
  PT.impI (pt_val h he) fun _ _ σ H Q _ h => test_lift h
/-! ### and, or, not, if -/
def dAnd (t u : DTT) : DTT := fun η G Q => t η G fun c G1 => if c = true then u η G1 Q else Q false G1
def dOr (t u : DTT) : DTT := fun η G Q => t η G fun c G1 => if c = true then Q true G1 else u η G1 Q
def dNot (t : DTT) : DTT := fun η G Q => t η G fun c G1 => Q (!c) G1
theorem ptd_w {e : Expr} {T : DTT} (h : PWD X e T) : PTD X e T := h.pt
theorem pwd_and1 {a : Expr} {T : DTT} {pos : Pos} (h : PTD X a T) : PWD X (.BoolOp .And [a] pos) T := pw_and1 h
theorem pwd_or1 {a : Expr} {T : DTT} {pos : Pos} (h : PTD X a T) : PWD X (.BoolOp .Or [a] pos) T := pw_or1 h
theorem pwd_and {a b : Expr} {rest : List Expr} {t u : DTT} {pos : Pos} (ha : PTD X a t) (hb : PWD X (.BoolOp .And (b :: rest) pos) u) : PWD X (.BoolOp .And (a :: b :: rest) pos) (dAnd t u) :=
  PW.impI (pw_and ha hb) fun _ _ σ H Q _ ⟨η, G, P, hs, hr, t, k⟩ => ⟨η, G, _, hs, hr, t, fun c G1 H1 p1 x1 r1 => by
    by_cases hc : c = true
    · subst hc
      rw [if_pos rfl] at p1 ⊢
      exact ⟨η, G1, P, hs.ext hr x1, r1, p1, fun b G2 H2 p2 x2 r2 => k b G2 H2 p2 (x1.trans x2) r2⟩
    · rw [if_neg hc] at p1 ⊢
      exact k false G1 H1 p1 x1 r1⟩
theorem pwd_or {a b : Expr} {rest : List Expr} {t u : DTT} {pos : Pos} (ha : PTD X a t) (hb : PWD X (.BoolOp .Or (b :: rest) pos) u) : PWD X (.BoolOp .Or (a :: b :: rest) pos) (dOr t u) :=
  PW.impI (pw_or ha hb) fun _ _ σ H Q _ ⟨η, G, P, hs, hr, t, k⟩ => ⟨η, G, _, hs, hr, t, fun c G1 H1 p1 x1 r1 => by
    by_cases hc : c = true
    · subst hc
      rw [if_pos rfl] at p1 ⊢
      exact k true G1 H1 p1 x1 r1
    · rw [if_neg hc] at p1 ⊢
      exact ⟨η, G1, P, hs.ext hr x1, r1, p1, fun b G2 H2 p2 x2 r2 => k b G2 H2 p2 (x1.trans x2) r2⟩⟩
theorem ptd_not {a : Expr} {T : DTT} {pos : Pos} (h : PTD X a T) : PTD X (.UnaryOp .Not a pos) (dNot T) :=
  PT.impI (pt_not h) fun _ _ σ H Q _ ⟨η, G, P, hs, hr, t, k⟩ => ⟨η, G, _, hs, hr, t, fun c G1 H1 p1 x1 r1 => k (!c) G1 H1 p1 x1 r1⟩
/-- as values; all but the last are truth values -/
def dAndV (Ta Tb : DTE) : DTE := fun η G Q => Ta η G fun d G1 => match d with
  | .bl c => if c = true then Tb η G1 Q else Q (.bl false) G1
  | _ => False
def dOrV (Ta Tb : DTE) : DTE := fun η G Q => Ta η G fun d G1 => match d with
  | .bl c => if c = true then Q (.bl true) G1 else Tb η G1 Q
  | _ => False
def dNotV (Ta : DTE) : DTE := fun η G Q => Ta η G fun d G1 => match d with
  | .bl c => Q (.bl (!c)) G1
  | _ => False
theorem ped_one {op : BoolOp} {a : Expr} {T : DTE} {pos : Pos} (h : PED X a T) : PED X (.BoolOp op [a] pos) T := pe_one h
theorem ped_and {a b : Expr} {rest : List Expr} {Ta Tb : DTE} {pos : Pos} (ha : PED X a Ta) (hb : PED X (.BoolOp .And (b :: rest) pos) Tb) : PED X (.BoolOp .And (a :: b :: rest) pos) (dAndV Ta Tb) :=
  PE.impI (pe_and ha hb) fun _ _ σ H Q _ ⟨η, G, P, hs, hr, t, k⟩ => ⟨η, G, _, hs, hr, t, fun d G1 v H1 p1 x1 r1 q1 => by
    cases d with
    | bl c =>
      rw [VR] at q1
      refine ⟨c, q1, ?_⟩
      by_cases hc : c = true
      · subst hc
        have p1 : Tb η G1 P := by simpa using p1
        rw [if_pos rfl]
        exact ⟨η, G1, P, hs.ext hr x1, r1, p1, fun d G2 v H2 p2 x2 r2 q => k d G2 v H2 p2 (x1.trans x2) r2 q⟩
      · have p1 : P (.bl false) G1 := by simpa [hc] using p1
        rw [if_neg hc]
        exact k _ G1 _ H1 p1 x1 r1 (by rw [VR])
    | _ => exact p1.elim⟩
theorem ped_or {a b : Expr} {rest : List Expr} {Ta Tb : DTE} {pos : Pos} (ha : PED X a Ta) (hb : PED X (.BoolOp .Or (b :: rest) pos) Tb) : PED X (.BoolOp .Or (a :: b :: rest) pos) (dOrV Ta Tb) :=
  PE.impI (pe_or ha hb) fun _ _ σ H Q _ ⟨η, G, P, hs, hr, t, k⟩ => ⟨η, G, _, hs, hr, t, fun d G1 v H1 p1 x1 r1 q1 => by
    cases d with
    | bl c =>
      rw [VR] at q1
      refine ⟨c, q1, ?_⟩
      by_cases hc : c = true
      · subst hc
        have p1 : P (.bl true) G1 := by simpa using p1
        rw [if_pos rfl]
        exact k _ G1 _ H1 p1 x1 r1 (by rw [VR])
      · have p1 : Tb η G1 P := by simpa [hc] using p1
        rw [if_neg hc]
        exact ⟨η, G1, P, hs.ext hr x1, r1, p1, fun d G2 v H2 p2 x2 r2 q => k d G2 v H2 p2 (x1.trans x2) r2 q⟩
    | _ => exact p1.elim⟩
theorem ped_not {a : Expr} {Ta : DTE} {pos : Pos} (ha : PED X a Ta) : PED X (.UnaryOp .Not a pos) (dNotV Ta) :=
  PE.impI (pe_not ha) fun _ _ σ H Q _ ⟨η, G, P, hs, hr, t, k⟩ => ⟨η, G, _, hs, hr, t, fun d G1 v H1 p1 x1 r1 q1 => by
    cases d with
    | bl c =>
      rw [VR] at q1
      exact ⟨c, q1, k _ G1 _ H1 p1 x1 r1 (by rw [VR])⟩
    | _ => exact p1.elim⟩
def dIf (t : DTT) (Ta Tb : DTE) : DTE := fun η G Q => t η G fun c G1 => if c = true then Ta η G1 Q else Tb η G1 Q
theorem ped_if {c a b : Expr} {t : DTT} {Ta Tb : DTE} {pos : Pos} (hc : PTD X c t) (ha : PED X a Ta) (hb : PED X b Tb) : PED X (.IfExp c a b pos) (dIf t Ta Tb) :=
  PE.impI (pe_ifExp hc ha hb) fun _ _ σ H Q _ ⟨η, G, P, hs, hr, t, k⟩ => ⟨η, G, _, hs, hr, t, fun c G1 H1 p1 x1 r1 => by
    by_cases hc : c = true
    · subst hc
      rw [if_pos rfl] at p1 ⊢
      exact ⟨η, G1, P, hs.ext hr x1, r1, p1, fun d G2 v H2 p2 x2 r2 q => k d G2 v H2 p2 (x1.trans x2) r2 q⟩
    · rw [if_neg hc] at p1 ⊢
      exact ⟨η, G1, P, hs.ext hr x1, r1, p1, fun d G2 v H2 p2 x2 r2 q => k d G2 v H2 p2 (x1.trans x2) r2 q⟩⟩

/-! ### statements -/
def dNext : DTS := fun F η G => F.nx η G
def dSeq (t u : DTS) : DTS := fun F η G => t { F with nx := u F } η G
theorem pssd_nil : PSsD X [] dNext := PSs.impI pss_nil fun _ _ σ H E _ ⟨η, G, F, hs, hr, t, k⟩ => k.nx η G σ H t (.refl _ _) hs hr
theorem pssd_cons {st : Stmt} {rest : List Stmt} {t u : DTS} (h1 : PSD X st t) (h2 : PSsD X rest u) : PSsD X (st :: rest) (dSeq t u) :=
  PSs.impI (pss_cons h1 h2) fun _ _ σ H E _ ⟨η, G, F, hs, hr, t, k⟩ => ⟨η, G, _, hs, hr, t,
    ⟨fun η' G' σ' H' p x s r => ⟨η', G', F, s, r, p, k.ext x⟩, k.rt, k.bk, k.ct⟩⟩
theorem pssd_one {st : Stmt} {t : DTS} (h1 : PSD X st t) : PSsD X [st] t := pss_one h1
def dBreak : DTS := fun F η G => F.bk η G
def dCont : DTS := fun F η G => F.ct η G
theorem psd_pass {pos} : PSD X (.Pass pos) dNext := PS.impI ps_pass fun _ _ σ H E _ ⟨η, G, F, hs, hr, t, k⟩ => k.nx η G σ H t (.refl _ _) hs hr
theorem psd_break {pos} : PSD X (.Break pos) dBreak := PS.impI ps_break fun _ _ σ H E _ ⟨η, G, F, hs, hr, t, k⟩ => k.bk η G σ H t (.refl _ _) hs hr
theorem psd_continue {pos} : PSD X (.Continue pos) dCont := PS.impI ps_continue fun _ _ σ H E _ ⟨η, G, F, hs, hr, t, k⟩ => k.ct η G σ H t (.refl _ _) hs hr
def dDrop (T : DTE) : DTS := fun F η G => T η G fun _ G1 => F.nx η G1
theorem psd_expr {e : Expr} {T : DTE} {pos : Pos} (he : PED X e T) (hs : swapsWith e none pos.line X.env = pure false := by rfl) : PSD X (.Expr e pos) (dDrop T) :=
  PS.impI (ps_expr he hs) fun _ _ σ H E _ ⟨η, G, F, hs, hr, t, k⟩ => ⟨η, G, _, hs, hr, t, fun d G1 v H1 p1 x1 r1 q1 => k.nx η G1 σ H1 p1 x1 (hs.ext hr x1) r1⟩
def dRet (T : DTE) : DTS := fun F η G => T η G F.rt
theorem psd_ret {e : Expr} {T : DTE} {pos : Pos} (he : PED X e T) : PSD X (.Return (some e) pos) (dRet T) :=
  PS.impI (ps_ret he) fun _ _ σ H E _ ⟨η, G, F, hs, hr, t, k⟩ => ⟨η, G, _, hs, hr, t, fun d G1 v H1 p1 x1 r1 q1 => k.rt d G1 v H1 p1 x1 r1 q1⟩
theorem Inv.fz {pins : List (Addr × Obj)} {σ : L2.St} {H : Hp} {G : DHp} {s : Shared} {p : Addr} {o : DO} (I : Inv X pins σ H s) (hr : HR X.ml H G) (h : G p = some o) : ∃ H', Fz H H' p o ∧ Inv X pins σ H' s := by
  have q := hr p o h
  cases o with
  | lst ds => exact ⟨H, rfl, I⟩
  | ins C fs => exact ⟨H, rfl, I⟩
  | dK kvs =>
    obtain ⟨ws, e, _⟩ := q
    obtain ⟨od, I'⟩ := I.lock e trivial
    exact ⟨_, ⟨_, od, e, trivial, rfl⟩, I'⟩
  | dN kvs => exact ⟨H, rfl, I⟩
/-- what is made is changed no more -/
def dFz (T : DTE) : DTE := fun η G Q => T η G fun d G1 => match d with
  | .ref a => match G1 a with
    | some o => Q o.tree (dl G1 a)
    | none => False
  | d => Q d G1
theorem ped_fz {e : Expr} {T : DTE} (h : PED X e T) : PED X e (dFz T) := ⟨fun pins s σ H Q I ⟨η, G, P, hs, hr, t, k⟩ => by
  refine thn (h.run pins s σ H (fun v H1 => ∃ d G1, (match d with | .ref a => (match G1 a with | some o => P o.tree (dl G1 a) | none => False) | d => P d G1) ∧ Ext H G H1 G1 ∧ HR X.ml H1 G1 ∧ VR X.ml H1 G1 d v) I ⟨η, G, _, hs, hr, t, fun d G1 v H1 p x r q => ⟨d, G1, p, x, r, q⟩⟩) fun u s1 ⟨v, H1, I1, rv, d, G1, p, x, r, q⟩ => ?_
  cases d with
  | ref a =>
    rw [VR] at q
    subst q
    cases e : G1 a with
    | none =>
      have p : (match G1 a with | some o => P o.tree (dl G1 a) | none => False) := p
      rw [e] at p; exact p.elim
    | some o =>
      have p : (match G1 a with | some o => P o.tree (dl G1 a) | none => False) := p
      rw [e] at p
      obtain ⟨H2, f, I2⟩ := Inv.fz I1 r e
      obtain ⟨t1, t2, t3⟩ := r.tree e f
      exact ⟨_, H2, I2, rv, k _ _ _ _ p (x.trans t2) t3 t1⟩
  | _ => exact ⟨v, H1, I1, rv, k _ G1 v H1 p x r q⟩⟩
def dRetF (T : DTE) : DTS := dRet (dFz T)
theorem psd_retF {e : Expr} {T : DTE} {pos : Pos} (he : PED X e T) : PSD X (.Return (some e) pos) (dRetF T) := psd_ret (ped_fz he)
def dRetN : DTS := fun F _ G => F.rt .non G
theorem psd_retN {pos} : PSD X (.Return none pos) dRetN := PS.impI ps_retN fun _ _ σ H E _ ⟨η, G, F, hs, hr, t, k⟩ => k.rt .non G .non H t (.refl _ _) hr (by rw [VR])
def dIfS (c : DTT) (t u : DTS) : DTS := fun F η G => c η G fun b G1 => if b = true then t F η G1 else u F η G1
theorem psd_if {c : Expr} {a b : List Stmt} {tc : DTT} {t u : DTS} {pos : Pos} (hc : PTD X c tc) (ha : PSsD X a t) (hb : PSsD X b u) : PSD X (.If c a b pos) (dIfS tc t u) :=
  PS.impI (ps_if hc ha hb) fun _ _ σ H E _ ⟨η, G, F, hs, hr, t, k⟩ => ⟨η, G, _, hs, hr, t, fun c G1 H1 p1 x1 r1 => by
    by_cases hc : c = true
    · subst hc
      rw [if_pos rfl] at p1 ⊢
      exact ⟨η, G1, F, hs.ext hr x1, r1, p1, k.ext x1⟩
    · rw [if_neg hc] at p1 ⊢
      exact ⟨η, G1, F, hs.ext hr x1, r1, p1, k.ext x1⟩⟩
def dNever : DTS := fun _ _ _ => False
theorem psd_never {st : Stmt} : PSD X st dNever := PS.impI ps_never fun _ _ σ H E _ ⟨η, G, F, hs, hr, t, k⟩ => t
/-- the ways of an if joined: one wish R for the test's outcome -/
theorem if_cut {c : DTT} {t u : DTS} {F : DEnds} {η : DSt} {G : DHp} (b : Bool) (h : ∀ Q : Bool → DHp → Prop, Q b G → c η G Q) (h1 : b = true → t F η G) (h2 : b = false → u F η G) : dIfS c t u F η G := by
  refine h _ ?_
  cases b with
  | true => exact h1 rfl
  | false => exact h2 rfl

/-! ### targets -/
def gdName (i : Nat) : DTG := fun d η G Q => Q (η.set i (some d)) G
theorem wipe_set (σ : L2.St) (i : Nat) (o : Option V) : wipe (σ.set i o) [i] = wipe σ [i] := by
  unfold wipe wipe
  rw [List.set_set]
theorem pgd_name {i : Nat} {x : Str} {pos : Pos} (hN : X.N.Nodup) (hi : X.N[i]? = some x) (hx : Loc X.env.scope x) (hf : X.fn x = true ∨ X.env.scope.names.lookup x = some .local := by first | exact .inl rfl | exact .inr rfl | assumption) : PGD X (.Name x pos) [i] (gdName i) :=
  PG.impI (pg_name hN hi hx hf) fun _ _ σ H v Q _ ⟨d, η, G, P, q, hs, hr, t, k⟩ => k _ G _ H t (.refl _ _) (hs.set i q) hr (wipe_set _ _ _)
def gdNil : DTGs := fun ds η G Q => match ds with
  | [] => Q η G
  | _ => False
def gdCons (t : DTG) (u : DTGs) : DTGs := fun ds η G Q => match ds with
  | d :: r => t d η G fun η' G' => u r η' G' Q
  | [] => False
theorem pgsd_nil : PGsD X [] [] gdNil := PGs.impI pgs_nil fun _ _ σ H vs Q _ ⟨ds, η, G, P, q, hs, hr, t, k⟩ => by
  cases ds with
  | nil => exact ⟨q.nil_of, k η G σ H t (.refl _ _) hs hr rfl⟩
  | cons d ds => exact t.elim
theorem wipe_app (σ : L2.St) (js : List Nat) : ∀ is : List Nat, wipe σ (is ++ js) = wipe (wipe σ js) is
  | [] => rfl
  | i :: is => by
    show (wipe σ (is ++ js)).set i none = (wipe (wipe σ js) is).set i none
    rw [wipe_app σ js is]
theorem wipe_comm1 (σ : L2.St) (i : Nat) : ∀ js : List Nat, wipe (σ.set i none) js = (wipe σ js).set i none
  | [] => rfl
  | j :: js => by
    show (wipe (σ.set i none) js).set j none = ((wipe σ js).set j none).set i none
    rw [wipe_comm1 σ i js]
    by_cases h : i = j
    · subst h; rfl
    · rw [List.set_comm _ _ h]
theorem wipe_comm (σ : L2.St) (js : List Nat) : ∀ is : List Nat, wipe (wipe σ js) is = wipe (wipe σ is) js
  | [] => rfl
  | i :: is => by
    show (wipe (wipe σ js) is).set i none = wipe ((wipe σ is).set i none) js
    rw [wipe_comm σ js is, wipe_comm1]
theorem wipe_trans {a b c : L2.St} {is js : List Nat} (h1 : wipe b is = wipe a is) (h2 : wipe c js = wipe b js) : wipe c (is ++ js) = wipe a (is ++ js) := by
  rw [wipe_app, wipe_app, h2, wipe_comm b, h1, wipe_comm]
theorem pgsd_cons {e : Expr} {es : List Expr} {is js : List Nat} {t : DTG} {u : DTGs} (h1 : PGD X e is t) (h2 : PGsD X es js u)
    (hs : (assignEach (e :: es) X.env).map (·.2) = assign e X.env :: (assignEach es X.env).map (·.2) := by rfl) : PGsD X (e :: es) (is ++ js) (gdCons t u) :=
  PGs.impI (pgs_cons h1 h2 hs) fun _ _ σ H vs Q _ ⟨ds, η, G, P, q, hs, hr, t, k⟩ => by
    cases ds with
    | nil => exact t.elim
    | cons d ds =>
      obtain ⟨v, r, rfl, q1, q2⟩ := q.uncons
      exact ⟨v, r, rfl, d, η, G, _, q1, hs, hr, t, fun η1 G1 σ1 H1 p1 x1 s1 r1 w1 => ⟨ds, η1, G1, P, q2.ext hr x1, s1, r1, p1, fun η2 G2 σ2 H2 p2 x2 s2 r2 w2 => k η2 G2 σ2 H2 p2 (x1.trans x2) s2 r2 (wipe_trans w1 w2)⟩⟩
def gdTup (t : DTGs) (n : Nat) : DTG := fun d η G Q => match d with
  | .nd .tup ds => ds.length = n ∧ t ds η G Q
  | _ => False
theorem pgd_tup {es : List Expr} {is : List Nat} {k : Nat} {t : DTGs} {n : Nat} {pos : Pos} (hc : X.calm = true) (h : PGsD X es is t)
    (hn : (assignEach es X.env).length = n := by rfl) (hst : (assignEach es X.env).findIdx? (·.1) = none := by rfl) : PGD X (.Tuple es k pos) is (gdTup t n) :=
  PG.impI (pg_tup hc h hn hst) fun _ _ σ H v Q _ ⟨d, η, G, P, q, hs, hr, t, k⟩ => by
    cases d with
    | nd kd ds =>
      cases kd with
      | tup =>
        rw [VR] at q
        obtain ⟨a, vs, rfl, hh, q⟩ := q
        obtain ⟨hl, t⟩ := t
        exact ⟨a, vs, rfl, hh, q.length.trans hl, ds, η, G, P, q, hs, hr, t, k⟩
      | _ => exact t.elim
    | _ => exact t.elim
def dAsg (T : DTE) (g : DTG) : DTS := fun F η G => T η G fun d G1 => g d η G1 F.nx
theorem psd_asg {tg e : Expr} {T : DTE} {is : List Nat} {g : DTG} {pos : Pos} (he : PED X e T) (hg : PGD X tg is g) (hs : swapsWithSole [tg] e pos.line X.env = pure false := by rfl) (hw : swappedStores [tg] e X.env = pure none := by rfl)
    (h1 : (assignEach [tg] X.env).map (·.2) = [assign tg X.env] := by rfl) : PSD X (.Assign [tg] e pos) (dAsg T g) :=
  PS.impI (ps_asg he hg hs hw h1) fun _ _ σ H E _ ⟨η, G, F, hs, hr, t, k⟩ => ⟨η, G, _, hs, hr, t, fun d G1 v H1 p1 x1 r1 q1 =>
    ⟨d, η, G1, _, q1, hs.ext hr x1, r1, p1, fun η2 G2 σ2 H2 p2 x2 s2 r2 w2 => k.nx η2 G2 σ2 H2 p2 (x1.trans x2) s2 r2⟩⟩
theorem psd_set {i : Nat} {x : Str} {e : Expr} {T : DTE} {pos pos' : Pos} (hN : X.N.Nodup) (hi : X.N[i]? = some x) (hx : Loc X.env.scope x) (he : PED X e T) (hs : swapsWith e (some (.Name x pos')) pos.line X.env = pure false := by rfl) (hf : X.fn x = true ∨ X.env.scope.names.lookup x = some .local := by first | exact .inl rfl | exact .inr rfl | assumption) :
    PSD X (.Assign [.Name x pos'] e pos) (dAsg T (gdName i)) :=
  PS.impI (ps_set hN hi hx he hs hf) fun _ _ σ H E _ ⟨η, G, F, hs, hr, t, k⟩ => ⟨η, G, _, hs, hr, t, fun d G1 v H1 p1 x1 r1 q1 =>
    k.nx _ G1 _ H1 p1 x1 ((hs.ext hr x1).set i q1) r1⟩
/-- a, b = x, y -/
def dPar (i j : Nat) (T : DTA) : DTS := fun F η G => T η G fun ds G1 => match ds with
  | [d, e] => F.nx ((η.set i (some d)).set j (some e)) G1
  | _ => False
theorem psd_par {i j : Nat} {x y : Str} {a b : Expr} {T : DTA} {px py pt pos : Pos} {kt k2 pt2} (hc : X.calm = true) (hN : X.N.Nodup) (hi : X.N[i]? = some x) (hj : X.N[j]? = some y) (hij : i ≠ j)
    (hx : X.env.scope.names.lookup x = some .local) (hy : X.env.scope.names.lookup y = some .local) (ha : PAD X [a, b] T)
    (hw : swappedStores [.Tuple [.Name x px, .Name y py] kt pt] (.Tuple [a, b] k2 pt2) X.env = pure (some [x, y]))
    (hs : swapsWithSole [.Tuple [.Name x px, .Name y py] kt pt] (.Tuple [a, b] k2 pt2) pos.line X.env = pure false := by rfl) :
    PSD X (.Assign [.Tuple [.Name x px, .Name y py] kt pt] (.Tuple [a, b] k2 pt2) pos) (dPar i j T) :=
  PS.impI (ps_par hc hN hi hj hij hx hy ha hw hs) fun _ _ σ H E _ ⟨η, G, F, hs, hr, t, k⟩ => ⟨η, G, _, hs, hr, t, fun ds G1 vs H1 p1 x1 r1 q1 => by
    match ds, p1, q1 with
    | [d, e], p1, q1 =>
      obtain ⟨v, r, rfl, a1, q2⟩ := q1.uncons
      obtain ⟨w, r', rfl, a2, q3⟩ := q2.uncons
      rw [q3.nil_of]
      exact ⟨v, w, rfl, k.nx _ G1 _ H1 p1 x1 (((hs.ext hr x1).set i a1).set j a2) r1⟩
    | [], p1, _ => exact p1.elim
    | [_], p1, _ => exact p1.elim
    | _ :: _ :: _ :: _, p1, _ => exact p1.elim⟩
/-- the object in a slot is changed no more -/
def dFrz (i : Nat) (t : DTS) : DTS := fun F η G => match η[i]? with
  | some (some (.ref a)) => match G a with
    | some o => t F (η.set i (some o.tree)) (dl G a)
    | none => False
  | _ => False
theorem pssd_frz {sts : List Stmt} {t : DTS} (i : Nat) (h : PSsD X sts t) : PSsD X sts (dFrz i t) := ⟨fun pins s σ H E I ⟨η, G, F, hs, hr, t, k⟩ => by
    unfold dFrz at t
    split at t
    · rename_i a e
      split at t
      · rename_i o ho
        obtain ⟨v, q, r⟩ := hs.2 i _ e
        rw [VR] at r
        subst r
        obtain ⟨H2, f, I2⟩ := Inv.fz I hr ho
        obtain ⟨t1, t2, t3⟩ := hr.tree ho f
        have s2 : SR X.ml H2 (dl G a) σ (η.set i (some o.tree)) := by
          have z := (hs.ext hr t2).set i t1
          have e2 : σ.set i (some (V.ref a)) = σ := by
            refine List.ext_getElem? fun j => ?_
            by_cases hj : i = j
            · subst hj
              rw [List.getElem?_set_self (List.getElem?_eq_some_iff.mp q).1, q]
            · rw [List.getElem?_set_ne hj]
          rw [e2] at z; exact z
        exact h.run pins s σ H2 E I2 ⟨_, _, F, s2, t3, t, k.ext t2⟩
      · exact t.elim
    · exact t.elim⟩
end
end DL
namespace DL
open PySem PySem.Spec PyProof.Rows L2

/-! ### what is walked -/
abbrev DTI := DSt → DHp → (List D → (DHp → Prop) → DHp → Prop) → Prop
/-- the walk J gives the items ds, as long as ok holds -/
def ItD (K : Ml) (H1 : Hp) (G1 : DHp) (J : It) (ds : List D) (ok : DHp → Prop) : Prop :=
  ∀ i H G, Ext H1 G1 H G → HR K H G → ok G →
    (∀ d, ds[i]? = some d → J.go i H ∧ ∀ x H', J.yld i H x H' → Ext H G H' G ∧ HR K H' G ∧ VR K H' G d x) ∧ (ds.length ≤ i → J.stop i H)
def liftI (K : Ml) (T : DTI) : TI := fun σ H R => ∃ η G P, SR K H G σ η ∧ HR K H G ∧ T η G P ∧
  ∀ ds ok G' J H', P ds ok G' → Ext H G H' G' → HR K H' G' → ItD K H' G' J ds ok → R J H'
abbrev PID (X : Cx) (tg it : Expr) (T : DTI) : Prop := PI X tg it (liftI X.ml T)
def always : DHp → Prop := fun _ => True

section
variable {X : Cx} {tg : Expr}
theorem Itl.itD {K : Ml} {H1 : Hp} {G1 : DHp} {a : Addr} {ds : List D} {ok : DHp → Prop} (h : ∀ H G, Ext H1 G1 H G → HR K H G → ok G → ∃ vs, SqL K.K H a vs ∧ VRs K H G ds vs) : ItD K H1 G1 (Itl K.K a) ds ok := by
  intro i H G x r o
  obtain ⟨vs, q, v⟩ := h H G x r o
  refine ⟨fun d e => ?_, fun l => ⟨vs, q, by rw [v.length]; exact l⟩⟩
  obtain ⟨u, e2, q2⟩ := v.get e
  refine ⟨⟨vs, u, q, e2⟩, fun y H' ⟨e3, e4⟩ => ?_⟩
  subst e3
  have e5 := e4 vs q
  rw [e2] at e5; cases e5
  exact ⟨.refl _ _, r, q2⟩
theorem Itt.itD {K : Ml} {H1 : Hp} {G1 : DHp} {a : Addr} {ds : List D} {ok : DHp → Prop} (h : ∀ H G, Ext H1 G1 H G → HR K H G → ok G → ∃ vs, SqT K.K H a vs ∧ VRs K H G ds vs) : ItD K H1 G1 (Itt K.K a) ds ok := by
  intro i H G x r o
  obtain ⟨vs, q, v⟩ := h H G x r o
  refine ⟨fun d e => ?_, fun l => ⟨vs, q, by rw [v.length]; exact l⟩⟩
  obtain ⟨u, e2, q2⟩ := v.get e
  refine ⟨⟨vs, u, q, e2⟩, fun y H' ⟨e3, e4⟩ => ?_⟩
  subst e3
  have e5 := e4 vs q
  rw [e2] at e5; cases e5
  exact ⟨.refl _ _, r, q2⟩
/-- a list or a tuple -/
def diSeq (T : DTE) : DTI := fun η G R => T η G fun d G1 => match d with
  | .nd .tup ds => R ds always G1
  | .nd .lst ds => R ds always G1
  | .nd .scr ds => R ds always G1
  | .ref a => (match G1 a with
    | some (.lst ds) => R ds (fun G => G a = some (.lst ds)) G1
    | _ => False)
  | _ => False
theorem held_lst {K : Ml} {H : Hp} {G : DHp} {k : Kd} {a : Addr} {vs : List V} (h : Held K H G k a vs) (hk : k = .lst ∨ k = .scr) : SqL K.K H a vs := by
  rcases hk with rfl | rfl
  · exact .inl (.inl h.2)
  · rcases h with ⟨o, h⟩ | h
    · exact .inl (.inr ⟨o, h⟩)
    · exact .inr h
theorem pid_seq {l : Expr} {T : DTE} (hl : PED X l T) : PID X tg l (diSeq T) := by
  refine ⟨fun pins s σ H R I ⟨η, G, P, hs, hr, t, k⟩ => ?_⟩
  refine thn (hl.run pins s σ H (fun v H1 => ∃ d G1, (match d with
    | .nd .tup ds => P ds always G1
    | .nd .lst ds => P ds always G1
    | .nd .scr ds => P ds always G1
    | .ref a => (match G1 a with
      | some (.lst ds) => P ds (fun G => G a = some (.lst ds)) G1
      | _ => False)
    | _ => False) ∧ Ext H G H1 G1 ∧ HR X.ml H1 G1 ∧ VR X.ml H1 G1 d v) I ⟨η, G, _, hs, hr, t, fun d G1 v H1 p x r q => ⟨d, G1, p, x, r, q⟩⟩) fun u s1 ⟨v, H1, I1, rv, d, G1, p, x, r, q⟩ => ?_
  have doL : ∀ (a : Addr) (ds : List D) (ok : DHp → Prop), v = .ref a → P ds ok G1 → ok G1 → (∀ H G, Ext H1 G1 H G → HR X.ml H G → ok G → ∃ vs, SqL X.K H a vs ∧ VRs X.ml H G ds vs) →
      wpAny (model X.prog X.w) X.A (pyIter u) (PIE X pins σ tg R) X.xe s1 := by
    intro a ds ok e p1 o1 hh
    subst e
    cases rv
    obtain ⟨vs, hq, _⟩ := hh H1 G1 (.refl _ _) r o1
    have hp : PI X tg (.Constant .none 0 ⟨0, 0, 0, 0⟩) (fun σ H R => R (Itl X.K a) H) → True := fun _ => trivial
    obtain ⟨its, rv2, p2, hz⟩ := I1.list hq
    refine wpAny_pyIter_list p2.isList ?_
    refine ⟨s1.heap.objs.size, [s1.heap.objs.size], _, _, H1, rfl, I1.kept (t' := s1.toks) fun b o e => Heap.get?_push_of_some _ e, turn_list a _, ⟨_, Heap.get?_push_size _ rfl, rfl, rfl⟩, fun b hb => ?_, k ds ok G1 _ H1 p1 x r (Itl.itD hh)⟩
    have e : b = s1.heap.objs.size := by simpa using hb
    subst e
    exact I1.fpOk (Nat.le_refl _) (I1.hok.fresh (Nat.le_refl _))
  cases d with
  | nd kd ds =>
    cases kd with
    | tup =>
      rw [VR] at q
      obtain ⟨a, vs, rfl, hq, vr⟩ := q
      cases rv
      obtain ⟨its, rv2, p2, hz⟩ := I1.tuple hq
      refine wpAny_pyIter_tuple (show s1.heap.IsTuple a its.toArray from p2) ?_
      refine ⟨s1.heap.objs.size, [s1.heap.objs.size], _, _, H1, rfl, I1.kept (t' := s1.toks) fun b o e => Heap.get?_push_of_some _ e, turn_tuple a _, ⟨_, Heap.get?_push_size _ rfl, rfl, rfl⟩, fun b hb => ?_,
        k ds always G1 _ H1 p x r (Itt.itD fun H' G' x' r' _ => ⟨vs, Held.ext (k := .tup) r x' hq, vr.ext r x'⟩)⟩
      have e : b = s1.heap.objs.size := by simpa using hb
      subst e
      exact I1.fpOk (Nat.le_refl _) (I1.hok.fresh (Nat.le_refl _))
    | lst =>
      rw [VR] at q
      obtain ⟨a, vs, e, hq, vr⟩ := q
      exact doL a ds always e p trivial fun H' G' x' r' _ => ⟨vs, held_lst (hq.ext r x') (.inl rfl), vr.ext r x'⟩
    | scr =>
      rw [VR] at q
      obtain ⟨a, vs, e, hq, vr⟩ := q
      exact doL a ds always e p trivial fun H' G' x' r' _ => ⟨vs, held_lst (hq.ext r x') (.inr rfl), vr.ext r x'⟩
    | _ => exact p.elim
  | ref a =>
    rw [VR] at q
    cases e : G1 a with
    | none =>
      have p : (match G1 a with | some (.lst ds) => P ds (fun G => G a = some (.lst ds)) G1 | _ => False) := p
      rw [e] at p; exact p.elim
    | some o =>
      have p : (match G1 a with | some (.lst ds) => P ds (fun G => G a = some (.lst ds)) G1 | _ => False) := p
      rw [e] at p
      cases o with
      | lst ds => exact doL a ds _ q p e fun H' G' x' r' o => let ⟨vs, z, w⟩ := r' a _ o; ⟨vs, .inl (.inl z), w⟩
      | _ => exact p.elim
  | _ => exact p.elim
/-- lo, lo + 1, .. below hi -/
def rangeL (lo hi : Int) : List Int := (List.range (hi - lo).toNat).map fun (k : Nat) => lo + (k : Int)
theorem Itr.itD {K : Ml} {H1 : Hp} {G1 : DHp} {lo hi : Int} : ItD K H1 G1 (Itr lo (hi - lo).toNat) ((rangeL lo hi).map D.int) always := by
  intro i H G x r o
  have hl : ((rangeL lo hi).map D.int).length = (hi - lo).toNat := by simp [rangeL]
  refine ⟨fun d e => ?_, fun l => by rw [hl] at l; exact l⟩
  have hi' : i < (hi - lo).toNat := by rw [← hl]; exact (List.getElem?_eq_some_iff.mp e).1
  refine ⟨hi', fun y H' ⟨e3, e4⟩ => ?_⟩
  subst e3 e4
  refine ⟨.refl _ _, r, ?_⟩
  have : d = D.int (lo + (i : Int)) := by
    simp only [rangeL, List.map_map, List.getElem?_map, List.getElem?_range hi', Option.map_some, Function.comp, Option.some.injEq] at e
    exact e.symm
  subst this
  rw [VR]
def diRange1 (T : DTA) : DTI := fun η G R => T η G fun ds G1 => match ds with
  | [.int j] => (-(2 ^ 62) ≤ j ∧ j < 2 ^ 62) ∧ R ((rangeL 0 j).map D.int) always G1
  | _ => False
theorem pid_range1 {a : Expr} {T : DTA} {p pos : Pos} (hm : X.mg "range" = none) (ha : PAD X [a] T) (hg : Gl X "range" := by rfl) (hs : starEach [a] X.env = [(false, eval a X.env)] := by rfl) : PID X tg (.Call (.Name "range" p) [a] [] pos) (diRange1 T) := by
  refine ⟨fun pins s σ H R I ⟨η, G, P, hs', hr, t, k⟩ => (pi_range1 hg hm ha hs).run pins s σ H R I ⟨η, G, _, hs', hr, t, fun ds G1 vs H1 p x r q => ?_⟩⟩
  match ds, p, q with
  | [.int j], ⟨⟨h1, h2⟩, p⟩, q =>
    obtain ⟨v, w, rfl, q1, q2⟩ := q.uncons
    rw [VR] at q1; subst q1
    rw [q2.nil_of]
    refine ⟨j, rfl, h1, h2, ?_⟩
    have := k _ always G1 (Itr 0 (j - 0).toNat) H1 p x r Itr.itD
    simpa using this
def diRange2 (T : DTA) : DTI := fun η G R => T η G fun ds G1 => match ds with
  | [.int i, .int j] => (-(2 ^ 62) ≤ i ∧ i < 2 ^ 62 ∧ -(2 ^ 62) ≤ j ∧ j < 2 ^ 62) ∧ R ((rangeL i j).map D.int) always G1
  | _ => False
theorem pid_range2 {a b : Expr} {T : DTA} {p pos : Pos} (hm : X.mg "range" = none) (ha : PAD X [a, b] T) (hg : Gl X "range" := by rfl) (hs : starEach [a, b] X.env = [(false, eval a X.env), (false, eval b X.env)] := by rfl) (hs2 : starEach [b] X.env = [(false, eval b X.env)] := by rfl) :
    PID X tg (.Call (.Name "range" p) [a, b] [] pos) (diRange2 T) := by
  refine ⟨fun pins s σ H R I ⟨η, G, P, hs', hr, t, k⟩ => (pi_range2 hg hm ha hs hs2).run pins s σ H R I ⟨η, G, _, hs', hr, t, fun ds G1 vs H1 p x r q => ?_⟩⟩
  match ds, p, q with
  | [.int i, .int j], ⟨h1, p⟩, q =>
    obtain ⟨v, w, rfl, q1, q2⟩ := q.uncons
    rw [VR] at q1; subst q1
    obtain ⟨v, w, rfl, q1, q3⟩ := q2.uncons
    rw [VR] at q1; subst q1
    rw [q3.nil_of]
    exact ⟨i, j, rfl, h1, k _ always G1 (Itr i (j - i).toNat) H1 p x r Itr.itD⟩

/-! ### for, while -/
/-- what is known may be less -/
def Wk (W : DSt → DHp → Prop) : DSt → DHp → Prop := fun η G => ∃ η0, Le η0 η ∧ W η0 G
def dFor (wi : DTI) (g : DTG) (tb : DTS) : DTS := fun F η G => wi η G fun ds ok G1 => ∃ W : Nat → DSt → DHp → Prop, W 0 η G1 ∧ (∀ i η G, W i η G → ok G) ∧
  (∀ i d η G, ds[i]? = some d → W i η G → g d η G fun η2 G2 => tb { F with nx := Wk (W (i + 1)), ct := Wk (W (i + 1)), bk := F.nx } η2 G2) ∧ ∀ η G, W ds.length η G → F.nx η G
theorem psd_for {iter : Expr} {body : List Stmt} {wi : DTI} {is : List Nat} {g : DTG} {tb : DTS} {pos : Pos} (hp : PassesOwn (model X.prog X.w) X.A X.env X.xe) (hc : X.calm = true) (hi : PID X tg iter wi) (hg : PGD X tg is g) (hb : PSsD X body tb)
    (hs : ∀ x, foldedSetIterable iter X.env x = pure x := by intro _; rfl) : PSD X (.For tg iter body [] pos) (dFor wi g tb) :=
  PS.impI (ps_for hp hc hi hg hb hs) fun _ _ σ H E _ ⟨η, G, F, hs, hr, t, k⟩ => ⟨η, G, _, hs, hr, t, fun ds ok G1 J H1 p x r it => by
    obtain ⟨W, w0, wok, step, fin⟩ := p
    refine ⟨fun i m σ' H' => m = ds.length - i ∧ i ≤ ds.length ∧ ∃ η' G', W i η' G' ∧ Ext H1 G1 H' G' ∧ SR X.ml H' G' σ' η' ∧ HR X.ml H' G',
      ⟨ds.length, by simp, Nat.zero_le _, η, G1, w0, .refl _ _, hs.ext hr x, r⟩, ?_⟩
    rintro i m σ1 H2 ⟨rfl, hle, η1, G2, w1, x1, s1, r1⟩
    obtain ⟨a1, a2⟩ := it i H2 G2 x1 r1 (wok _ _ _ w1)
    by_cases hlt : i < ds.length
    · have e : ds[i]? = some ds[i] := by simp [hlt]
      obtain ⟨go, yl⟩ := a1 _ e
      refine .inr ⟨go, fun σ' H' => ∃ η' G', Wk (W (i + 1)) η' G' ∧ Ext H1 G1 H' G' ∧ SR X.ml H' G' σ' η' ∧ HR X.ml H' G', fun σ' H' ⟨η', G', ⟨η0, l, w⟩, x', s', r'⟩ => ⟨_, by omega, rfl, hlt, η0, G', w, x', s'.le l, r'⟩, fun y H3 hy => ?_⟩
      obtain ⟨x3, r3, v3⟩ := yl y H3 hy
      refine ⟨_, η1, G2, _, v3, s1.ext r1 x3, r3, step i _ η1 G2 e w1, fun η4 G4 σ4 H4 p4 x4 s4 r4 _ => ⟨η4, G4, _, s4, r4, p4, ?_⟩⟩
      have x5 : Ext H1 G1 H4 G4 := (x1.trans x3).trans x4
      exact ⟨fun η' G' σ' H' p y s r => ⟨η', G', p, x5.trans y, s, r⟩, fun d G' v H' p y r q => k.rt d G' v H' p ((x.trans x5).trans y) r q, fun η' G' σ' H' p y s r => k.nx η' G' σ' H' p ((x.trans x5).trans y) s r,
        fun η' G' σ' H' p y s r => ⟨η', G', p, x5.trans y, s, r⟩⟩
    · have e : i = ds.length := by omega
      subst e
      exact .inl ⟨a2 (Nat.le_refl _), k.nx η1 G2 σ1 H2 (fin _ _ w1) (x.trans x1) s1 r1⟩⟩
def dWhile (c : DTT) (tb : DTS) : DTS := fun F η G => ∃ W : Nat → DSt → DHp → Prop, (∃ m, W m η G) ∧ ∀ m η G, W m η G →
  c η G fun b G1 => if b = true then tb { F with nx := fun η' G' => ∃ m', m' < m ∧ Wk (W m') η' G', ct := fun η' G' => ∃ m', m' < m ∧ Wk (W m') η' G', bk := F.nx } η G1 else F.nx η G1
theorem psd_while {c : Expr} {body : List Stmt} {tc : DTT} {tb : DTS} {pos : Pos} (hp : PassesOwn (model X.prog X.w) X.A X.env X.xe) (hc : PTD X c tc) (hb : PSsD X body tb) : PSD X (.While c body [] pos) (dWhile tc tb) :=
  PS.impI (ps_while hp hc hb) fun _ _ σ H E _ ⟨η, G, F, hs, hr, t, k⟩ => by
    obtain ⟨W, ⟨m0, w0⟩, step⟩ := t
    refine ⟨fun m σ' H' => ∃ η' G', W m η' G' ∧ Ext H G H' G' ∧ SR X.ml H' G' σ' η' ∧ HR X.ml H' G', ⟨m0, η, G, w0, .refl _ _, hs, hr⟩, ?_⟩
    rintro m σ1 H1 ⟨η1, G1, w1, x1, s1, r1⟩
    refine ⟨η1, G1, _, s1, r1, step m η1 G1 w1, fun b G2 H2 p2 x2 r2 => ?_⟩
    cases b with
    | true =>
      rw [if_pos rfl] at p2 ⊢
      refine ⟨fun σ' H' => ∃ m', m' < m ∧ ∃ η' G', Wk (W m') η' G' ∧ Ext H G H' G' ∧ SR X.ml H' G' σ' η' ∧ HR X.ml H' G', fun σ' H' ⟨m', hm, η', G', ⟨η0, l, w⟩, x', s', r'⟩ => ⟨m', hm, η0, G', w, x', s'.le l, r'⟩, ?_⟩
      refine ⟨η1, G2, _, s1.ext r1 x2, r2, p2, ?_⟩
      have x3 := x1.trans x2
      exact ⟨fun η' G' σ' H' ⟨m', hm, p⟩ y s r => ⟨m', hm, η', G', p, x3.trans y, s, r⟩, fun d G' v H' p y r q => k.rt d G' v H' p (x3.trans y) r q, fun η' G' σ' H' p y s r => k.nx η' G' σ' H' p (x3.trans y) s r,
        fun η' G' σ' H' ⟨m', hm, p⟩ y s r => ⟨m', hm, η', G', p, x3.trans y, s, r⟩⟩
    | false =>
      rw [if_neg Bool.false_ne_true] at p2 ⊢
      exact k.nx η1 G2 σ1 H2 p2 (x1.trans x2) (s1.ext r1 x2) r2
end

/-! ### list comprehensions -/
def wipeD (η : DSt) : List Nat → DSt
  | [] => η
  | v :: vs => (wipeD η vs).set v none
section
variable {X : Cx} {tg : Expr}
theorem SR.wipe {K : Ml} {H : Hp} {G : DHp} {σ : L2.St} {η : DSt} (h : SR K H G σ η) : ∀ vs : List Nat, SR K H G (wipe σ vs) (wipeD η vs)
  | [] => h
  | v :: vs => SR.none (SR.wipe h vs) v Option.none
/-- a clause's tests -/
abbrev PTsD (X : Cx) (ifs : List Expr) (T : DTT) : Prop := PTs X ifs (liftT X.ml T)
def dYes : DTT := fun _ G Q => Q true G
theorem ptsd_nil : PTsD X [] dYes := ⟨fun pins s σ H Q I ⟨η, G, P, hs, hr, t, k⟩ => pts_nil.run pins s σ H Q I (k true G H t (.refl _ _) hr)⟩
theorem ptsd_one {c : Expr} {T : DTT} (h : PTD X c T) : PTsD X [c] T := pts_one h
/-- [elt for tg in iter if ..] -/
def dLc (wi : DTI) (g : DTG) (tt : DTT) (te : DTE) (own : List Nat) : DTE := fun η G Q => wi η G fun ds ok G1 => ∀ p, G1 p = none → ∃ W : Nat → List D → DHp → Prop, W 0 [] (up G1 p (.lst [])) ∧ (∀ i acc G, W i acc G → ok G ∧ G p = some (.lst acc)) ∧
  (∀ i d acc G, ds[i]? = some d → W i acc G → g d (wipeD η own) G fun η2 G2 => tt η2 G2 fun b G3 => if b = true then te η2 G3 fun y G4 => acc.length < sizeLine ∧ G4 p = some (.lst acc) ∧ W (i + 1) (acc ++ [y]) (up G4 p (.lst (acc ++ [y]))) else W (i + 1) acc G3) ∧
  ∀ acc G, W ds.length acc G → Q (.ref p) G
theorem wipe_sub {a b : L2.St} {is vs : List Nat} (h : wipe b is = wipe a is) (hl : ∀ i ∈ is, i ∈ vs) (ha : a.length = b.length) : wipe b vs = wipe a vs := by
  have get : ∀ (σ : L2.St) (vs : List Nat) (j : Nat), (wipe σ vs)[j]? = if j ∈ vs then (if j < σ.length then some none else none) else σ[j]? := by
    intro σ vs j
    induction vs with
    | nil => simp [wipe]
    | cons v vs ih =>
      unfold wipe
      by_cases hj : v = j
      · subst hj
        by_cases hlt : v < σ.length
        · rw [List.getElem?_set_self (by rw [wipe_length]; exact hlt)]
          simp [hlt]
        · rw [List.getElem?_eq_none (by rw [List.length_set, wipe_length]; omega)]
          simp [hlt]
      · rw [List.getElem?_set_ne hj, ih]
        have : j ≠ v := Ne.symm hj
        simp [this]
  refine List.ext_getElem? fun j => ?_
  rw [get, get]
  by_cases hj : j ∈ vs
  · simp [hj, ha]
  · have hi : j ∉ is := fun q => hj (hl j q)
    have e := congrArg (fun l => l[j]?) h
    simp only [get, hi, if_false] at e
    simp [hj, e]
theorem wipe_idem (σ : L2.St) (own : List Nat) : wipe (wipe σ own) own = wipe σ own := by
  refine List.ext_getElem? fun j => ?_
  by_cases hj : j ∈ own
  · have h1 : ∀ (vs : List Nat) (s : L2.St), j ∈ vs → (wipe s vs)[j]? = if j < s.length then some none else none := by
      intro vs s hm
      induction vs with
      | nil => cases hm
      | cons v vs ih =>
        unfold wipe
        by_cases e : v = j
        · subst e
          by_cases hlt : v < s.length
          · rw [List.getElem?_set_self (by rw [wipe_length]; exact hlt), if_pos hlt]
          · rw [List.getElem?_eq_none (by rw [List.length_set, wipe_length]; omega), if_neg hlt]
        · rw [List.getElem?_set_ne e, ih ((List.mem_cons.mp hm).resolve_left fun q => e q.symm)]
    rw [h1 own _ hj, h1 own _ hj, wipe_length]
  · rw [wipe_out hj]
theorem lc_lift {K : Ml} {wi : DTI} {g : DTG} {tt : DTT} {te : DTE} {own is : List Nat} {σ : L2.St} {H : Hp} {Q : VK} (hsub : ∀ i ∈ is, i ∈ own) (h : liftE K (dLc wi g tt te own) σ H Q) :
    tLc (liftI K wi) (liftG K is g) (liftT K tt) (liftE K te) own σ H Q := by
  obtain ⟨η, G, P, hs, hr, t, k⟩ := h
  refine ⟨η, G, _, hs, hr, t, fun ds ok G1 J H1 pp x r it => ?_⟩
  intro D hD
  have gD : G1 D = none := r.free hD
  obtain ⟨W, w0, wok, step, fin⟩ := pp D gD
  have xD : Ext H1 G1 (upd H1 D (.lst [])) (up G1 D (.lst [])) := .new hD
  have rD : HR K (upd H1 D (.lst [])) (up G1 D (.lst [])) := r.new hD ⟨[], upd_same, .nil⟩
  refine ⟨fun i m H' => m = ds.length - i ∧ i ≤ ds.length ∧ ∃ acc G', W i acc G' ∧ Ext H1 G1 H' G' ∧ HR K H' G',
    ⟨ds.length, by simp, Nat.zero_le _, [], _, w0, xD, rD⟩, ?_⟩
  rintro i m H2 ⟨rfl, hle, acc, G2, w1, x1, r1⟩
  obtain ⟨a1, a2⟩ := it i H2 G2 x1 r1 (wok _ _ _ w1).1
  by_cases hlt : i < ds.length
  · have e : ds[i]? = some ds[i] := by simp [hlt]
    obtain ⟨go, yl⟩ := a1 _ e
    refine .inr ⟨go, fun H' => ∃ acc G', W (i + 1) acc G' ∧ Ext H1 G1 H' G' ∧ HR K H' G', fun H' ⟨acc', G', z⟩ => ⟨_, by omega, rfl, hlt, acc', G', z⟩, fun y H3 hy => ?_⟩
    obtain ⟨x3, r3, v3⟩ := yl y H3 hy
    have s3 : SR K H3 G2 (wipe σ own) (wipeD η own) := ((hs.ext hr x).ext r (x1.trans x3)).wipe own
    refine ⟨_, wipeD η own, G2, _, v3, s3, r3, step i _ acc G2 e w1, fun η4 G4 σ4 H4 p4 x4 s4 r4 wp => ⟨?_, η4, G4, _, s4, r4, p4, fun b G5 H5 p5 x5 r5 => ?_⟩⟩
    · have hlen : (wipe σ own).length = σ4.length := by
        have := congrArg List.length wp
        rw [wipe_length, wipe_length] at this
        exact this.symm
      rw [wipe_sub (vs := own) wp hsub hlen]
      exact wipe_idem _ _
    · by_cases hb : b = true
      · subst hb
        rw [if_pos rfl] at p5 ⊢
        refine ⟨η4, G5, _, s4.ext r4 x5, r5, p5, fun dy G6 vy H6 ⟨hz, hp6, w6⟩ x6 r6 q6 => ?_⟩
        obtain ⟨vs, hv6, ha⟩ := r6 D _ hp6
        have xx : Ext H2 G2 H6 G6 := ((x3.trans x4).trans x5).trans x6
        have xw : Ext H6 G6 (upd H6 D (.lst (vs ++ [vy]))) (up G6 D (.lst (acc ++ [dy]))) := .write hp6
        refine ⟨vs, hv6, by rw [ha.length]; exact hz, acc ++ [dy], _, w6, (x1.trans xx).trans xw, r6.write hp6 ⟨_, upd_same, ?_⟩⟩
        exact (ha.ext r6 xw).append (.cons (q6.ext r6 xw) .nil)
      · rw [if_neg hb] at p5 ⊢
        exact ⟨acc, G5, p5, x1.trans ((x3.trans x4).trans x5), r5⟩
  · have e : i = ds.length := by omega
    subst e
    exact .inl ⟨a2 (Nat.le_refl _), k (.ref D) G2 (.ref D) H2 (fin _ _ w1) (x.trans x1) r1 (by rw [VR])⟩
abbrev CPG (X : Cx) (scope : Scope) (tg : Expr) (is : List Nat) (g : DTG) : Prop := ∀ (s : Shared) (H : Hp) (C : Addr) (cl : List (Str × Addr)) (fp : List Addr), PGD (X.blk s H scope (compEnvC scope cl C X.env) fp) tg is g
theorem ped_lc {elt tg iter : Expr} {ifs : List Expr} {scope : Scope} {own : List (Str × Nat)} {is : List Nat} {pos : Pos} {wi : DTI} {g : DTG} {tt : DTT} {te : DTE} (hc : X.calm = true) (hN : X.N.Nodup) (hi : PID X tg iter wi) (ok : BlkOk X.N X.env.scope scope own)
    (hg : ∀ (s : Shared) (H : Hp) (C : Addr) (cl : List (Str × Addr)) (fp : List Addr), PGD (X.blk s H scope (compEnvC scope cl C X.env) fp) tg is g) (ht : ∀ (s : Shared) (H : Hp) (C : Addr) (cl : List (Str × Addr)) (fp : List Addr), PTsD (X.blk s H scope (compEnvC scope cl C X.env) fp) ifs tt)
    (he : ∀ (s : Shared) (H : Hp) (C : Addr) (cl : List (Str × Addr)) (fp : List Addr), PED (X.blk s H scope (compEnvC scope cl C X.env) fp) elt te) (hsub : ∀ i ∈ is, i ∈ own.map (·.2) := by decide) (hs : ∀ x, foldedSetIterable iter X.env x = pure x := by intro _; rfl) :
    PED X (.ListComp elt [⟨tg, iter, ifs, 0⟩] scope pos) (dLc wi g tt te (own.map (·.2))) :=
  PE.impI (pe_lc hc hN hi ok hg ht he hs) fun _ _ _ _ _ _ h => lc_lift hsub h
/-- name = [..] on one line -/
theorem psd_setLc {i : Nat} {y : Str} {py : Pos} {elt tg iter : Expr} {ifs : List Expr} {scope : Scope} {own : List (Str × Nat)} {is : List Nat} {pos spos : Pos} {wi : DTI} {g : DTG} {tt : DTT} {te : DTE} (hc : X.calm = true) (hN : X.N.Nodup) (hy : X.N[i]? = some y) (hyl : X.env.scope.names.lookup y = some .local)
    (hsw : swapsWith (.ListComp elt [⟨tg, iter, ifs, 0⟩] scope pos) (some (.Name y py)) spos.line X.env = pure true) (hi : PID X tg iter wi) (ok : BlkOk X.N X.env.scope scope own)
    (hg : ∀ (s : Shared) (H : Hp) (C : Addr) (cl : List (Str × Addr)) (fp : List Addr), PGD (X.blk s H scope (compEnvC scope cl C X.env) fp) tg is g) (ht : ∀ (s : Shared) (H : Hp) (C : Addr) (cl : List (Str × Addr)) (fp : List Addr), PTsD (X.blk s H scope (compEnvC scope cl C X.env) fp) ifs tt)
    (he : ∀ (s : Shared) (H : Hp) (C : Addr) (cl : List (Str × Addr)) (fp : List Addr), PED (X.blk s H scope (compEnvC scope cl C X.env) fp) elt te) (hsub : ∀ i ∈ is, i ∈ own.map (·.2) := by decide) (hs : ∀ x, foldedSetIterable iter X.env x = pure x := by intro _; rfl) :
    PSD X (.Assign [.Name y py] (.ListComp elt [⟨tg, iter, ifs, 0⟩] scope pos) spos) (dAsg (dLc wi g tt te (own.map (·.2))) (gdName i)) :=
  PS.impI (ps_setLc hc hN hy hyl hsw hi ok hg ht he hs) fun _ _ σ H E _ ⟨η, G, F, hs, hr, t, k⟩ =>
    show tLc _ _ _ _ _ σ H _ from lc_lift hsub ⟨η, G, _, hs, hr, t, fun d G1 v H1 p1 x1 r1 q1 => k.nx _ G1 _ H1 p1 x1 ((hs.ext hr x1).set i q1) r1⟩
end
end DL
namespace DL
open PySem PySem.Spec PyProof.Rows L2

/-! ### plain data -/
mutual
def py : D → PyData
  | .non => .none
  | .bl b => .bool b
  | .int i => .int i
  | .str x => .str x
  | .ty _ => .none
  | .ref _ => .none
  | .nd .tup ds => .tuple (pys ds)
  | .nd .lst ds => .list (pys ds)
  | .nd .scr ds => .list (pys ds)
  | .nd _ _ => .none
def pys : List D → List PyData
  | [] => []
  | d :: ds => py d :: pys ds
end
mutual
def plainD : D → Bool
  | .non => true
  | .bl _ => true
  | .int _ => true
  | .str _ => true
  | .nd .tup ds => plainDs ds
  | .nd .lst ds => plainDs ds
  | .nd .scr ds => plainDs ds
  | _ => false
def plainDs : List D → Bool
  | [] => true
  | d :: ds => plainD d && plainDs ds
end
theorem pys_map : ∀ ds : List D, pys ds = ds.map py
  | [] => rfl
  | d :: ds => by rw [pys, pys_map ds]; rfl
theorem plainDs_all : ∀ ds : List D, plainDs ds = ds.all plainD
  | [] => rfl
  | d :: ds => by rw [plainDs, plainDs_all ds]; rfl
section
variable {K : Ml} {H : Hp} {G : DHp}
theorem held_tup {a : Addr} {vs : List V} (h : Held K H G .tup a vs) : SqT K.K H a vs := h
mutual
theorem VR.dp : ∀ {d : D} {v : V}, VR K H G d v → plainD d = true → Dp K.K H v (py d)
  | .non, _, h, _ => by rw [VR] at h; subst h; exact .non
  | .bl _, _, h, _ => by rw [VR] at h; subst h; exact .bl _
  | .int _, _, h, _ => by rw [VR] at h; subst h; exact .int _
  | .str _, _, h, _ => by rw [VR] at h; subst h; exact .str _
  | .ty _, _, _, p => by simp [plainD] at p
  | .ref _, _, _, p => by simp [plainD] at p
  | .nd .tup ds, _, h, p => by
    rw [VR] at h
    obtain ⟨a, vs, rfl, q, r⟩ := h
    rw [py]
    exact .tup q (VRs.dp r (by rw [plainD] at p; exact p))
  | .nd .lst ds, _, h, p => by
    rw [VR] at h
    obtain ⟨a, vs, rfl, q, r⟩ := h
    rw [py]
    exact .lst (held_lst q (.inl rfl)) (VRs.dp r (by rw [plainD] at p; exact p))
  | .nd .scr ds, _, h, p => by
    rw [VR] at h
    obtain ⟨a, vs, rfl, q, r⟩ := h
    rw [py]
    exact .lst (held_lst q (.inr rfl)) (VRs.dp r (by rw [plainD] at p; exact p))
  | .nd (.ins _ _) ds, _, _, p => by simp [plainD] at p
  | .nd (.dK _) ds, _, _, p => by simp [plainD] at p
  | .nd (.dN _) ds, _, _, p => by simp [plainD] at p
theorem VRs.dp : ∀ {ds : List D} {vs : List V}, VRs K H G ds vs → plainDs ds = true → DpAll K.K H vs (pys ds)
  | [], _, h, _ => by rw [h.nil_of, pys]; exact .nil
  | d :: ds, _, h, p => by
    obtain ⟨v, r, rfl, q, t⟩ := h.uncons
    rw [plainDs, Bool.and_eq_true] at p
    rw [pys]
    exact .cons (VR.dp q p.1) (VRs.dp t p.2)
end
/-- what is read at a value: a tracked list by its items -/
def der (d : D) (G : DHp) : D := match d with
  | .ref a => (match G a with
    | some (.lst ds) => .nd .lst ds
    | _ => .ref a)
  | d => d
theorem der_ref {a : Addr} {G : DHp} : der (.ref a) G = (match G a with | some (.lst ds) => .nd .lst ds | _ => .ref a) := rfl
theorem der_lt {a : Addr} {G : DHp} {ds : List D} (h : G a = some (.lst ds)) : der (.ref a) G = .nd .lst ds := by rw [der_ref, h]
theorem der_dp (hr : HR K H G) {d : D} {v : V} (h : VR K H G d v) (p : plainD (der d G) = true) : Dp K.K H v (py (der d G)) := by
  cases d with
  | ref a =>
    rw [VR] at h
    subst h
    rw [der_ref] at p ⊢
    cases e : G a with
    | none => rw [e] at p; simp [plainD] at p
    | some o =>
      cases o with
      | lst ds =>
        rw [e] at p
        simp only at p ⊢
        obtain ⟨vs, q, r⟩ := hr a _ e
        rw [py]
        exact .lst (.inl (.inl q)) (r.dp (by rw [plainD] at p; exact p))
      | _ => rw [e] at p; simp [plainD] at p
  | _ => exact h.dp p
/-- a list, whatever way it is held -/
theorem der_lst (hr : HR K H G) {d : D} {v : V} {ds : List D} (h : VR K H G d v) (e : der d G = .nd .lst ds) : ∃ a vs, v = .ref a ∧ H a = some (.lst vs) ∧ VRs K H G ds vs := by
  cases d with
  | ref a =>
    rw [VR] at h
    subst h
    rw [der_ref] at e
    cases g : G a with
    | none => rw [g] at e; cases e
    | some o =>
      cases o with
      | lst ds' =>
        rw [g] at e
        simp only [D.nd.injEq, true_and] at e
        subst e
        obtain ⟨vs, q, r⟩ := hr a _ g
        exact ⟨a, vs, rfl, q, r⟩
      | _ => rw [g] at e; cases e
  | nd k ds' =>
    have e : D.nd k ds' = .nd .lst ds := e
    cases e
    rw [VR] at h
    obtain ⟨a, vs, rfl, q, r⟩ := h
    exact ⟨a, vs, rfl, q.2, r⟩
  | _ => cases e
end

section
variable {X : Cx}
/-- an operator by cases -/
theorem opd_of {f : Value → Value → Sem Value} {r : DR2} (h : ∀ pins s σ H G x y v u dx dy P, Inv X pins σ H s → RelV x v → RelV y u → HR X.ml H G → VR X.ml H G dx x → VR X.ml H G dy y → r dx dy G P →
    wpAny (model X.prog X.w) X.A (f v u) (fun w s' => ∃ z d H' G', Inv X pins σ H' s' ∧ RelV z w ∧ P d G' ∧ Ext H G H' G' ∧ HR X.ml H' G' ∧ VR X.ml H' G' d z) X.xe s) : OpD X f r := by
  intro pins s σ H x y v u Q I rx ry ⟨dx, dy, G, P, hr, q1, q2, t, k⟩
  exact thn (h pins s σ H G x y v u dx dy P I rx ry hr q1 q2 t) fun w s' ⟨z, d, H', G', I', rz, p, x', r', q'⟩ => ⟨z, H', I', rz, k d G' z H' p x' r' q'⟩
/-- the end where nothing is made -/
theorem opd_fin {pins : List (Addr × Obj)} {σ : L2.St} {H : Hp} {G : DHp} {s : Shared} {P : D → DHp → Prop} {d : D} {z : V} {w : Value} (I : Inv X pins σ H s) (rz : RelV z w) (hr : HR X.ml H G) (q : VR X.ml H G d z) (p : P d G) :
    ∃ z d H' G', Inv X pins σ H' s ∧ RelV z w ∧ P d G' ∧ Ext H G H' G' ∧ HR X.ml H' G' ∧ VR X.ml H' G' d z := ⟨z, d, H, G, I, rz, p, .refl _ _, hr, q⟩
def i2 (C : Int → Int → Prop) (g : Int → Int → D) : DR2 := fun x y G Q => match x, y with
  | .int i, .int j => C i j ∧ Q (g i j) G
  | _, _ => False
theorem opd_i2 {f : Value → Value → Sem Value} {C : Int → Int → Prop} {g : Int → Int → D} {gv : Int → Int → V} (hg : ∀ i j H G, VR X.ml H G (g i j) (gv i j)) (h : OpR X f (rI C gv)) : OpD X f (i2 C g) := opd_of fun pins s σ H G x y v u dx dy P I rx ry hr q1 q2 t => by
  unfold i2 at t
  split at t
  · rename_i i j
    rw [VR] at q1 q2
    subst q1 q2
    refine thn (h pins s σ H _ _ v u (fun z H' => z = gv i j ∧ H' = H) I rx ry ⟨i, j, rfl, rfl, t.1, rfl, rfl⟩) fun w s' ⟨z, H', I', rz, e1, e2⟩ => ?_
    subst e1 e2
    exact opd_fin I' rz hr (hg i j H' G) t.2
  · exact t.elim
theorem rI0_rI {f : Value → Value → Sem Value} {g : Int → Int → V} (h : OpR X f (rI0 g)) : OpR X f (rI (fun _ _ => True) g) := fun pins s σ H x y v u Q I rx ry ⟨i, j, e1, e2, _, q⟩ => h pins s σ H x y v u Q I rx ry ⟨i, j, e1, e2, q⟩
theorem od_sub : OpD X (binaryOp .Sub) (i2 (fun _ _ => True) fun i j => .int (i - j)) := opd_i2 (fun _ _ _ _ => by rw [VR]) (rI0_rI op_sub)
theorem od_mul : OpD X (binaryOp .Mult) (i2 CMul fun i j => .int (i * j)) := opd_i2 (fun _ _ _ _ => by rw [VR]) op_mul
/-- a divisor below 2 ^ 30 -/
theorem od_fdiv : OpD X (binaryOp .FloorDiv) (i2 CDiv fun i j => .int (i / j)) := opd_i2 (fun _ _ _ _ => by rw [VR]) op_fdiv
theorem od_mod : OpD X (binaryOp .Mod) (i2 (fun _ j => 0 < j) fun i j => .int (i % j)) := opd_i2 (fun _ _ _ _ => by rw [VR]) op_mod
theorem od_pow : OpD X (binaryOp .Pow) (i2 CPow fun i j => .int (i ^ j.toNat)) := opd_i2 (fun _ _ _ _ => by rw [VR]) op_pow
/-- + of ints, texts, tuples, lists (a new list that is changed no more) -/
def dAdd : DR2 := fun x y G Q => match der x G, der y G with
  | .int i, .int j => Q (.int (i + j)) G
  | .str a, .str b => a.length + b.length ≤ sizeLine ∧ Q (.str (a ++ b)) G
  | .nd .tup xs, .nd .tup ys => xs.length + ys.length ≤ sizeLine ∧ Q (.nd .tup (xs ++ ys)) G
  | .nd .lst xs, .nd .lst ys => xs.length + ys.length ≤ sizeLine ∧ Q (.nd .lst (xs ++ ys)) G
  | _, _ => False
theorem der_of {G : DHp} {x d : D} (e : der x G = d) (hl : ∀ ds, d ≠ .nd .lst ds) : x = d := by
  cases x with
  | ref a =>
    rw [der_ref] at e
    cases g : G a with
    | none => rw [g] at e; exact e
    | some o =>
      cases o with
      | lst ds => rw [g] at e; exact absurd e.symm (hl ds)
      | _ => rw [g] at e; exact e
  | _ => exact e
theorem od_add : OpD X (binaryOp .Add) dAdd := opd_of fun pins s σ H G x y v u dx dy P I rx ry hr q1 q2 t => by
  unfold dAdd at t
  split at t
  · rename_i i j e1 e2
    have e1 := der_of e1 (fun _ h => nomatch h)
    have e2 := der_of e2 (fun _ h => nomatch h)
    subst e1 e2
    rw [VR] at q1 q2
    subst q1 q2
    obtain ⟨t1, rfl⟩ := rx
    obtain ⟨t2, rfl⟩ := ry
    exact add_int (opd_fin (z := .int (i + j)) (I.tok _) ⟨_, rfl⟩ hr (by rw [VR]) t)
  · rename_i i j e1 e2
    have e1 := der_of e1 (fun _ h => nomatch h)
    have e2 := der_of e2 (fun _ h => nomatch h)
    subst e1 e2
    rw [VR] at q1 q2
    subst q1 q2
    exact thn (op_add_str pins s σ H _ _ v u (fun z H' => z = .str (i ++ j) ∧ H' = H) I rx ry ⟨i, j, rfl, rfl, t.1, rfl, rfl⟩) fun w s' ⟨z, H', I', rz, e1, e2⟩ => by
      subst e1 e2
      exact opd_fin I' rz hr (by rw [VR]) t.2
  · rename_i xs ys e1 e2
    have e1 := der_of e1 (fun _ h => nomatch h)
    have e2 := der_of e2 (fun _ h => nomatch h)
    subst e1 e2
    rw [VR] at q1 q2
    obtain ⟨a, vs, rfl, h1, r1⟩ := q1
    obtain ⟨b, ws, rfl, h2, r2⟩ := q2
    refine thn (op_catA pins s σ H _ _ v u (fun z H' => Ext H G H' G ∧ HR X.ml H' G ∧ VR X.ml H' G (.nd .tup (xs ++ ys)) z) I rx ry ⟨a, b, vs, ws, rfl, rfl, h1, h2, by rw [r1.length, r2.length]; exact t.1, fun e => ?_, fun _ e => ?_, fun _ _ p hp => ?_⟩) fun w s' ⟨z, H', I', rz, x', r', q'⟩ => ⟨z, _, H', G, I', rz, t.2, x', r', q'⟩
    · have : xs = [] := by have := r1.length; rw [e] at this; exact List.length_eq_zero_iff.mp this.symm
      subst this
      refine ⟨.refl _ _, hr, ?_⟩
      rw [VR]
      exact ⟨b, ws, rfl, h2, r2⟩
    · have : ys = [] := by have := r2.length; rw [e] at this; exact List.length_eq_zero_iff.mp this.symm
      subst this
      refine ⟨.refl _ _, hr, ?_⟩
      rw [VR, List.append_nil]
      exact ⟨a, vs, rfl, h1, r1⟩
    · have x2 : Ext H G (upd H p (.tup (vs ++ ws))) G := .laid hp
      refine ⟨x2, hr.laid hp, ?_⟩
      rw [VR]
      exact ⟨p, _, rfl, .inl (.inl upd_same), (r1.append r2).ext hr x2⟩
  · rename_i xs ys e1 e2
    obtain ⟨a, vs, rfl, h1, r1⟩ := der_lst hr q1 e1
    obtain ⟨b, ws, rfl, h2, r2⟩ := der_lst hr q2 e2
    refine thn (op_cat pins s σ H _ _ v u (fun z H' => Ext H G H' G ∧ HR X.ml H' G ∧ VR X.ml H' G (.nd .lst (xs ++ ys)) z) I rx ry ⟨a, b, vs, ws, rfl, rfl, h1, h2, by rw [r1.length, r2.length]; exact t.1, fun p hp => ?_⟩) fun w s' ⟨z, H', I', rz, x', r', q'⟩ => ⟨z, _, H', G, I', rz, t.2, x', r', q'⟩
    have x2 : Ext H G (upd H p (.lst (vs ++ ws))) G := .laid hp
    refine ⟨x2, hr.laid hp, ?_⟩
    rw [VR]
    exact ⟨p, _, rfl, ⟨hr.free hp, upd_same⟩, (r1.append r2).ext hr x2⟩
  · exact t.elim
/-! ### comparisons -/
/-- equality of plain data -/
def dEq : DR2 := fun x y G Q => (plainD (der x G) = true ∧ plainD (der y G) = true ∧ SeqAt.shaped (py (der x G)) = true ∧ SeqAt.shaped (py (der y G)) = true) ∧ Q (.bl (PyData.eqv (py (der x G)) (py (der y G)))) G
def dNe : DR2 := fun x y G Q => (plainD (der x G) = true ∧ plainD (der y G) = true ∧ SeqAt.shaped (py (der x G)) = true ∧ SeqAt.shaped (py (der y G)) = true) ∧ Q (.bl (!PyData.eqv (py (der x G)) (py (der y G)))) G
theorem od_eq (hu : X.A.units + 64 < cLine) : OpD X (compareOp .Eq) dEq := opd_of fun pins s σ H G x y v u dx dy P I rx ry hr q1 q2 ⟨⟨p1, p2, s1, s2⟩, t⟩ =>
  thn (op_eqD hu pins s σ H _ _ v u (fun z H' => z = .bl (PyData.eqv (py (der dx G)) (py (der dy G))) ∧ H' = H) I rx ry ⟨_, _, der_dp hr q1 p1, der_dp hr q2 p2, s1, s2, rfl, rfl⟩) fun w s' ⟨z, H', I', rz, e1, e2⟩ => by
    subst e1 e2
    exact opd_fin I' rz hr (by rw [VR]) t
theorem od_ne (hu : X.A.units + 64 < cLine) : OpD X (compareOp .NotEq) dNe := opd_of fun pins s σ H G x y v u dx dy P I rx ry hr q1 q2 ⟨⟨p1, p2, s1, s2⟩, t⟩ =>
  thn (op_neD hu pins s σ H _ _ v u (fun z H' => z = .bl (!PyData.eqv (py (der dx G)) (py (der dy G))) ∧ H' = H) I rx ry ⟨_, _, der_dp hr q1 p1, der_dp hr q2 p2, s1, s2, rfl, rfl⟩) fun w s' ⟨z, H', I', rz, e1, e2⟩ => by
    subst e1 e2
    exact opd_fin I' rz hr (by rw [VR]) t
/-- an order of plain data -/
def dOrd (g : PyData → PyData → Bool) : DR2 := fun x y G Q => (plainD x = true ∧ plainD y = true ∧ PySem.W.alike (py x) (py y) = true ∧ py x ≠ .none ∧ (py x).depth ≤ 64) ∧ Q (.bl (g (py x) (py y))) G
abbrev dLt : DR2 := dOrd PySem.W.dataLt
abbrev dLe : DR2 := dOrd fun a b => !PySem.W.dataLt b a
abbrev dGt : DR2 := dOrd fun a b => PySem.W.dataLt b a
abbrev dGe : DR2 := dOrd fun a b => !PySem.W.dataLt a b
theorem od_ord {f : Value → Value → Sem Value} {g : PyData → PyData → Bool} (hu : X.A.units + 64 < cLine)
    (h : ∀ {s : Shared} {a b : Value} {da db : PyData} {as bs : List Addr} {Q : Value → Shared → Prop}, Reads s.heap a da as → Reads s.heap b db bs → PySem.W.alike da db = true → da ≠ .none → X.A.units + min da.depth db.depth < cLine → Q (.bool (g da db)) s → wpAny (model X.prog X.w) X.A (f a b) Q X.xe s) : OpD X f (dOrd g) :=
  opd_of fun pins s σ H G x y v u dx dy P I rx ry hr q1 q2 ⟨⟨p1, p2, al, nn, dp⟩, t⟩ => by
    obtain ⟨as, r1⟩ := Dp.reads I _ _ v (q1.dp p1) rx
    obtain ⟨bs, r2⟩ := Dp.reads I _ _ u (q2.dp p2) ry
    exact h r1 r2 al nn (by have := Nat.min_le_left (py dx).depth (py dy).depth; omega) (opd_fin (z := .bl _) I rfl hr (by rw [VR]) t)
theorem od_lt (hu : X.A.units + 64 < cLine) : OpD X (compareOp .Lt) dLt := od_ord hu fun r1 r2 h n u q => PySem.W.lt_data r1 r2 h n u q
theorem od_le (hu : X.A.units + 64 < cLine) : OpD X (compareOp .LtE) dLe := od_ord hu fun r1 r2 h n u q => PySem.W.le_data r1 r2 h n u q
theorem od_gt (hu : X.A.units + 64 < cLine) : OpD X (compareOp .Gt) dGt := od_ord hu fun r1 r2 h n u q => PySem.W.gt_data r1 r2 h n u q
theorem od_ge (hu : X.A.units + 64 < cLine) : OpD X (compareOp .GtE) dGe := od_ord hu fun r1 r2 h n u q => PySem.W.ge_data r1 r2 h n u q
/-- is None -/
def isNon : D → Bool
  | .non => true
  | _ => false
def dIsN (b : Bool) : DR2 := fun x y G Q => match y with
  | .non => Q (.bl (b != isNon x)) G
  | _ => False
theorem non_dec {K : Ml} {H : Hp} {G : DHp} {d : D} {v : V} (h : VR K H G d v) : isNon d = decide (v = .non) := by
  cases d with
  | nd k ds => rw [VR] at h; obtain ⟨a, vs, rfl, _⟩ := h; rfl
  | _ => rw [VR] at h; subst h; rfl
theorem od_is : OpD X (compareOp .Is) (dIsN false) := opd_of fun pins s σ H G x y v u dx dy P I rx ry hr q1 q2 t => by
  cases dy with
  | non =>
    rw [VR] at q2; subst q2
    refine thn (op_isN pins s σ H _ _ v u (fun z H' => z = .bl (decide (x = .non)) ∧ H' = H) I rx ry ⟨rfl, rfl, rfl⟩) fun w s' ⟨z, H', I', rz, e1, e2⟩ => ?_
    subst e1 e2
    refine opd_fin I' rz hr (d := .bl (decide (x = .non))) (by rw [VR]) ?_
    rw [← non_dec q1]
    have t : P (.bl (false != isNon dx)) G := t
    simpa using t
  | _ => exact t.elim
theorem od_isnot : OpD X (compareOp .IsNot) (dIsN true) := opd_of fun pins s σ H G x y v u dx dy P I rx ry hr q1 q2 t => by
  cases dy with
  | non =>
    rw [VR] at q2; subst q2
    refine thn (op_notN pins s σ H _ _ v u (fun z H' => z = .bl (!decide (x = .non)) ∧ H' = H) I rx ry ⟨rfl, rfl, rfl⟩) fun w s' ⟨z, H', I', rz, e1, e2⟩ => ?_
    subst e1 e2
    refine opd_fin I' rz hr (d := .bl (!decide (x = .non))) (by rw [VR]) ?_
    rw [← non_dec q1]
    have t : P (.bl (true != isNon dx)) G := t
    simpa using t
  | _ => exact t.elim
end
end DL
namespace DL
open PySem PySem.Spec PyProof.Rows L2

/-! ### dicts as they are read -/
def dicN (y : D) (G : DHp) : Option (List (NestedKey × D)) := match y with
  | .nd (.dN ks) vs => some (ks.zip vs)
  | .ref a => (match G a with
    | some (.dN kvs) => some kvs
    | _ => none)
  | _ => none
def dicK (y : D) (G : DHp) : Option (List (Key × D)) := match y with
  | .nd (.dK ks) vs => some (ks.zip vs)
  | .ref a => (match G a with
    | some (.dK kvs) => some kvs
    | _ => none)
  | _ => none
def D.kK : D → Option Key
  | .int i => some (.inl i)
  | .str x => some (.inr x)
  | _ => none
/-- what stands at a key -/
def dval {κ : Type} [DecidableEq κ] (kvs : List (κ × D)) (k : κ) : Option D := (kvs.find? fun p => decide (p.1 = k)).map (·.2)
/-- d[k] = v -/
def dput {κ : Type} [DecidableEq κ] (kvs : List (κ × D)) (k : κ) (v : D) : List (κ × D) :=
  if kvs.any fun p => decide (p.1 = k) then kvs.map fun p => if p.1 = k then (p.1, v) else p else kvs ++ [(k, v)]
def ddrop {κ : Type} [DecidableEq κ] (kvs : List (κ × D)) (k : κ) : List (κ × D) := kvs.filter fun p => decide (p.1 ≠ k)
theorem fst_zip {α β : Type} : ∀ {l : List α} {m : List β}, l.length = m.length → (l.zip m).map (·.1) = l
  | [], _, _ => rfl
  | _ :: _, [], h => by simp at h
  | a :: l, b :: m, h => by simp [fst_zip (l := l) (m := m) (by simpa using h)]
theorem snd_zip {α β : Type} : ∀ {l : List α} {m : List β}, l.length = m.length → (l.zip m).map (·.2) = m
  | [], [], _ => rfl
  | [], _ :: _, h => by simp at h
  | _ :: _, [], h => by simp at h
  | a :: l, b :: m, h => by simp [snd_zip (l := l) (m := m) (by simpa using h)]
section
variable {K : Ml} {H : Hp} {G : DHp}
theorem dicN_at (hr : HR K H G) {d : D} {v : V} {kvs : List (NestedKey × D)} (h : VR K H G d v) (e : dicN d G = some kvs) : ∃ a ws, v = .ref a ∧ DnAt K H a (kvs.map (·.1)) ws ∧ VRs K H G (kvs.map (·.2)) ws := by
  cases d with
  | ref a =>
    rw [VR] at h
    have e : (match G a with | some (.dN kvs) => some kvs | _ => none) = some kvs := e
    cases g : G a with
    | none => rw [g] at e; cases e
    | some o =>
      cases o with
      | dN kvs' =>
        rw [g] at e
        cases e
        obtain ⟨ws, q, r⟩ := hr a _ g
        exact ⟨a, ws, h, q, r⟩
      | _ => rw [g] at e; cases e
  | nd k ds =>
    cases k with
    | dN ks =>
      cases e
      rw [VR] at h
      obtain ⟨a, vs, ev, ⟨_, q⟩, r⟩ := h
      have hl : ks.length = ds.length := by
        obtain ⟨xs, _, _, _, _, _, h4, _, _, _, h8⟩ := id q
        rw [← r.length, h8.length, ← h4, List.length_map, List.length_map]
      exact ⟨a, vs, ev, by rw [fst_zip hl]; exact q, by rw [snd_zip hl]; exact r⟩
    | _ => cases e
  | _ => cases e
theorem dicK_at (hr : HR K H G) {d : D} {v : V} {kvs : List (Key × D)} (h : VR K H G d v) (e : dicK d G = some kvs) : ∃ a ws, v = .ref a ∧ Rd H a (.dK ws) ∧ ws.map (·.1) = kvs.map (·.1) ∧ VRs K H G (kvs.map (·.2)) (ws.map (·.2)) := by
  cases d with
  | ref a =>
    rw [VR] at h
    have e : (match G a with | some (.dK kvs) => some kvs | _ => none) = some kvs := e
    cases g : G a with
    | none => rw [g] at e; cases e
    | some o =>
      cases o with
      | dK kvs' =>
        rw [g] at e
        cases e
        obtain ⟨ws, q, z, r⟩ := hr a _ g
        exact ⟨a, ws, h, .inl q, z, r⟩
      | _ => rw [g] at e; cases e
  | nd k ds =>
    cases k with
    | dK ks =>
      cases e
      rw [VR] at h
      obtain ⟨a, vs, ev, ⟨l, o, q⟩, r⟩ := h
      have hl : ks.length = ds.length := by rw [l, r.length]
      exact ⟨a, ks.zip vs, ev, .inr ⟨o, q⟩, by rw [fst_zip l, fst_zip hl], by rw [snd_zip l, snd_zip hl]; exact r⟩
    | _ => cases e
  | _ => cases e
/-- the values found by keys are the same -/
theorem dval_vr {κ : Type} [DecidableEq κ] (k : κ) : ∀ {ws : List (κ × V)} {kvs : List (κ × D)}, ws.map (·.1) = kvs.map (·.1) → VRs K H G (kvs.map (·.2)) (ws.map (·.2)) → (dval kvs k = none ∧ valV ws k = none) ∨ ∃ d v, dval kvs k = some d ∧ valV ws k = some v ∧ VR K H G d v
  | [], [], _, _ => .inl ⟨rfl, rfl⟩
  | [], _ :: _, h, _ => by simp at h
  | _ :: _, [], h, _ => by simp at h
  | (k1, v) :: ws, (k2, d) :: kvs, h, r => by
    simp only [List.map_cons, List.cons.injEq] at h
    obtain ⟨h1, h2⟩ := h
    subst h1
    obtain ⟨v', r', e, q, t⟩ := VRs.uncons r
    simp only [List.map_cons, List.cons.injEq] at e
    obtain ⟨rfl, rfl⟩ := e
    by_cases hk : k1 = k
    · exact .inr ⟨d, v, by simp [dval, hk], by simp [valV, hk], q⟩
    · have := dval_vr k h2 t
      simpa [dval, valV, hk] using this
mutual
theorem key_at : ∀ {d : D} {v : V} {k : NestedKey}, VR K H G d v → D.key d = some k → KeyAt K H k v
  | .non, _, _, h, e => by rw [D.key] at e; cases e; rw [VR] at h; rw [KeyAt]; exact h
  | .bl _, _, _, h, e => by simp [D.key] at e
  | .int _, _, _, h, e => by rw [D.key] at e; cases e; rw [VR] at h; rw [KeyAt]; exact h
  | .str _, _, _, h, e => by rw [D.key] at e; cases e; rw [VR] at h; rw [KeyAt]; exact h
  | .ty _, _, _, h, e => by simp [D.key] at e
  | .ref _, _, _, h, e => by simp [D.key] at e
  | .nd .tup ds, _, _, h, e => by
    rw [D.key] at e
    cases q : D.keys ds with
    | none => rw [q] at e; cases e
    | some ks =>
      rw [q] at e
      cases e
      rw [VR] at h
      obtain ⟨a, vs, rfl, hh, r⟩ := h
      rw [KeyAt]
      exact ⟨a, vs, rfl, hh, keys_at r q⟩
  | .nd .lst _, _, _, h, e => by simp [D.key] at e
  | .nd .scr _, _, _, h, e => by simp [D.key] at e
  | .nd (.ins _ _) _, _, _, h, e => by simp [D.key] at e
  | .nd (.dK _) _, _, _, h, e => by simp [D.key] at e
  | .nd (.dN _) _, _, _, h, e => by simp [D.key] at e
theorem keys_at : ∀ {ds : List D} {vs : List V} {ks : List NestedKey}, VRs K H G ds vs → D.keys ds = some ks → KeysAt K H ks vs
  | [], _, _, h, e => by rw [D.keys] at e; cases e; rw [KeysAt]; exact h.nil_of
  | d :: ds, _, _, h, e => by
    obtain ⟨v, r, rfl, q, t⟩ := h.uncons
    rw [D.keys] at e
    cases e1 : D.key d with
    | none => rw [e1] at e; cases e
    | some k =>
      cases e2 : D.keys ds with
      | none => rw [e1, e2] at e; cases e
      | some ks' =>
        rw [e1, e2] at e
        cases e
        rw [KeysAt]
        exact ⟨v, r, rfl, key_at q e1, keys_at t e2⟩
end
mutual
/-- a key that is held, as a tree -/
theorem nkD_vr : ∀ {k : NestedKey} {v : V}, KeyAt K H k v → VR K H G (nkD k) v
  | .none, _, h => by rw [KeyAt] at h; rw [nkD, VR]; exact h
  | .num _, _, h => by rw [KeyAt] at h; rw [nkD, VR]; exact h
  | .text _, _, h => by rw [KeyAt] at h; rw [nkD, VR]; exact h
  | .tup ks, _, h => by
    rw [KeyAt] at h
    obtain ⟨a, vs, rfl, q, r⟩ := h
    rw [nkD, VR]
    exact ⟨a, vs, rfl, q, nkDs_vr r⟩
theorem nkDs_vr : ∀ {ks : List NestedKey} {vs : List V}, KeysAt K H ks vs → VRs K H G (nkDs ks) vs
  | [], _, h => by rw [KeysAt] at h; rw [nkDs, VRs]; exact h
  | k :: ks, _, h => by
    rw [KeysAt] at h
    obtain ⟨v, r, rfl, q, t⟩ := h
    rw [nkDs]
    exact .cons (nkD_vr q) (nkDs_vr t)
end
end
section
variable {X : Cx}
mutual
theorem nested_is {pins : List (Addr × Obj)} {σ : L2.St} {H : Hp} {s : Shared} (I : Inv X pins σ H s) : ∀ {k : NestedKey} {v : V} {u : Value}, KeyAt X.ml H k v → RelV v u → NestedIs s.heap k u
  | .none, _, _, h, r => by rw [KeyAt] at h; subst h; cases (show _ = Value.none from r); exact .none
  | .num i, _, _, h, r => by rw [KeyAt] at h; subst h; obtain ⟨t, rfl⟩ := r; exact .int i t
  | .text x, _, _, h, r => by rw [KeyAt] at h; subst h; obtain ⟨t, rfl⟩ := r; exact .text x t
  | .tup ks, _, _, h, r => by
    rw [KeyAt] at h
    obtain ⟨a, vs, rfl, q, t⟩ := h
    cases (show _ = Value.ref a from r)
    obtain ⟨its, rv, ⟨o, ho, hc, n, hd⟩, _⟩ := I.tuple q
    exact .tup ho hc hd (nested_all I t rv)
theorem nested_all {pins : List (Addr × Obj)} {σ : L2.St} {H : Hp} {s : Shared} (I : Inv X pins σ H s) : ∀ {ks : List NestedKey} {vs : List V} {us : List Value}, KeysAt X.ml H ks vs → Vals vs us → NestedAll s.heap ks us
  | [], _, _, h, r => by rw [KeysAt] at h; subst h; cases r; exact .nil
  | k :: ks, _, _, h, r => by
    rw [KeysAt] at h
    obtain ⟨v, w, rfl, q, t⟩ := h
    cases r with
    | cons r1 r2 => exact .cons (nested_is I q r1) (nested_all I t r2)
end
/-- a dict with nested keys at the library's level -/
theorem DnAt.of {pins : List (Addr × Obj)} {σ : L2.St} {H : Hp} {s : Shared} {a : Addr} {ks : List NestedKey} {vs : List V} (I : Inv X pins σ H s) (h : DnAt X.ml H a ks vs) :
    ∃ xs es ep, H a = some (rawO a es ep) ∧ s.heap.DictRaw a es ep ∧ es.toList = xs.map (entryOfKey (nestedKind X.prog X.w)) ∧ s.heap.DictOfH (nestedKind X.prog X.w) a xs ∧ (a == sysModules) = false ∧ xs.map (·.1) = ks ∧ ks.length ≤ sizeLine ∧ (∀ x ∈ xs, KeyAt X.ml H x.1 (.ref x.2.1) ∧ x.1.depth ≤ 8) ∧ Vals vs (xs.map (·.2.2)) := by
  obtain ⟨xs, es, ep, h1, h2, h3, h4, h5, h6, h7, h8⟩ := h
  obtain ⟨φ, _, _⟩ := (show ObjOk X.prog X.w H s.heap a (rawO a es ep) from I.hok a _ h1)
  refine ⟨xs, es, ep, h1, φ, h3, ?_, h2, h4, h6, h7, h8⟩
  obtain ⟨o, ho, hc, hd⟩ := φ
  exact ⟨o, es, ep, ho, hc, hd, h3, fun x hx => ⟨nested_is I (h7 x hx).1 rfl, (h7 x hx).2⟩, by rw [h4]; exact h5⟩
theorem nk_room {A : Around} (hu : A.units + 64 < cLine) : (nestedKind X.prog X.w).room A.in1 := by
  show A.units + 1 + 8 < cLine
  omega
/-- the dict at a has been written -/
theorem dn_write {pins : List (Addr × Obj)} {σ : L2.St} {H : Hp} {s : Shared} {a : Addr} {es es' : Array DictEntry} {ep ep' t' : Nat} {h' : Heap} (I : Inv X pins σ H s) (hH : H a = some (rawO a es ep)) (hs : Heap.SameBut a s.heap h') (hr : h'.DictRaw a es' ep') :
    Inv X pins σ (upd H a (rawO a es' ep')) { s with heap := h', toks := t' } := by
  obtain ⟨o, ho, hc, hd⟩ := id hr
  exact I.write (by rw [hH]; trivial) (.inl rfl) (fun b u hb e => (hs.2 b hb).trans e) ⟨o, ho⟩ ⟨hr, ⟨o, ho⟩, fun h1 h2 φ k => φ.at k⟩
theorem entry_get {K : Type} {xs : List (NestedKey × Addr × Value)} {k : NestedKey} {vs : List V} (r : Vals vs (xs.map (·.2.2))) : ∀ (kvs : List (NestedKey × D)) (H : Hp) (G : DHp) (M : Ml), xs.map (·.1) = kvs.map (·.1) → VRs M H G (kvs.map (·.2)) vs →
    (dval kvs k = none ∧ atKey xs k = none) ∨ ∃ d v p, dval kvs k = some d ∧ atKey xs k = some p ∧ RelV v p.2 ∧ VR M H G d v := by
  induction xs generalizing vs with
  | nil =>
    intro kvs H G M h1 h2
    cases kvs with
    | nil => exact .inl ⟨rfl, rfl⟩
    | cons _ _ => simp at h1
  | cons x xs ih =>
    intro kvs H G M h1 h2
    cases kvs with
    | nil => simp at h1
    | cons y kvs =>
      obtain ⟨k2, d⟩ := y
      simp only [List.map_cons, List.cons.injEq] at h1
      obtain ⟨v, w, rfl, q, t⟩ := VRs.uncons h2
      cases r with
      | cons r1 r2 =>
        by_cases hk : k2 = k
        · exact .inr ⟨d, v, x.2, by simp [dval, hk], by simp [atKey, h1.1, hk], r1, q⟩
        · have hk' : ¬ x.1 = k := by rw [h1.1]; exact hk
          have := ih r2 kvs H G M h1.2 t
          simpa [dval, atKey, hk, hk'] using this
theorem any_dval {κ : Type} [DecidableEq κ] (k : κ) : ∀ kvs : List (κ × D), (kvs.any fun p => decide (p.1 = k)) = (dval kvs k).isSome
  | [] => rfl
  | (a, d) :: kvs => by
    by_cases h : a = k
    · simp [dval, h]
    · have := any_dval k kvs
      simp only [List.any_cons, h, decide_false, Bool.false_or, this]
      simp [dval, h]
/-! ### in -/
def dIn (neg : Bool) : DR2 := fun x y G Q => match der y G with
  | .nd .lst ds => (plainD x = true ∧ plainDs ds = true ∧ SeqAt.shaped (py x) = true ∧ PyData.canLayAll0 (pys ds) = true) ∧ Q (.bl (neg != (pys ds).any fun z => PyData.eqv z (py x))) G
  | .nd .tup ds => (plainD x = true ∧ plainDs ds = true ∧ SeqAt.shaped (py x) = true ∧ PyData.canLayAll0 (pys ds) = true) ∧ Q (.bl (neg != (pys ds).any fun z => PyData.eqv z (py x))) G
  | _ => match dicN y G with
    | some kvs => (match x with
      | .nd .tup _ => (match x.key with
        | some k => k.depth ≤ 8 ∧ Q (.bl (neg != (dval kvs k).isSome)) G
        | none => False)
      | _ => False)
    | none => match dicK y G with
      | some kvs => (match x.kK with
        | some k => Q (.bl (neg != (dval kvs k).isSome)) G
        | none => False)
      | none => False
theorem kK_vr {K : Ml} {H : Hp} {G : DHp} {d : D} {v : V} {k : Key} (h : VR K H G d v) (e : d.kK = some k) : v = kV k := by
  cases d with
  | int i => rw [VR] at h; cases e; exact h
  | str i => rw [VR] at h; cases e; exact h
  | _ => cases e
theorem od_in (hu : X.A.units + 65 < cLine) : OpD X (compareOp .In) (dIn false) := opd_of fun pins s σ H G x y v u dx dy P I rx ry hr q1 q2 t => by
  unfold dIn at t
  split at t
  · rename_i ds e
    obtain ⟨⟨p1, p2, s1, s2⟩, t⟩ := t
    have hp := der_dp hr q2 (by rw [e, plainD]; exact p2)
    rw [e, py] at hp
    obtain ⟨as, r1⟩ := Dp.reads I _ _ v (q1.dp p1) rx
    obtain ⟨bs, r2⟩ := Dp.reads I _ _ u hp ry
    exact SeqAt.in_list_reads r2 r1 s2 (SeqAt.canLay_of_shaped s1) (room_in_shaped s1 hu) (opd_fin (z := .bl _) I rfl hr (d := .bl ((pys ds).any fun z => PyData.eqv z (py dx))) (by rw [VR]) (by simpa using t))
  · rename_i ds e
    obtain ⟨⟨p1, p2, s1, s2⟩, t⟩ := t
    have hp := der_dp hr q2 (by rw [e, plainD]; exact p2)
    rw [e, py] at hp
    obtain ⟨as, r1⟩ := Dp.reads I _ _ v (q1.dp p1) rx
    obtain ⟨bs, r2⟩ := Dp.reads I _ _ u hp ry
    exact SeqAt.in_tuple_reads r2 r1 s2 (SeqAt.canLay_of_shaped s1) (room_in_shaped s1 hu) (opd_fin (z := .bl _) I rfl hr (d := .bl ((pys ds).any fun z => PyData.eqv z (py dx))) (by rw [VR]) (by simpa using t))
  · split at t
    · rename_i kvs e
      cases dx with
      | nd kd ds =>
        cases kd with
        | tup =>
          have t : (match D.key (.nd .tup ds) with | some k => k.depth ≤ 8 ∧ P (.bl (false != (dval kvs k).isSome)) G | none => False) := t
          cases ek : D.key (.nd .tup ds) with
          | none => rw [ek] at t; exact t.elim
          | some k =>
            rw [ek] at t
            obtain ⟨hd8, t⟩ := (show k.depth ≤ 8 ∧ P (.bl (false != (dval kvs k).isSome)) G from t)
            have ka := key_at q1 ek
            obtain ⟨a, ws, rfl, dn, vr⟩ := dicN_at hr q2 e
            obtain ⟨xs, es, ep, h1, h2, h3, h4, h5, h6, h7, h8, h9⟩ := DnAt.of I dn
            rw [VR] at q1
            obtain ⟨b, vs, rfl, hb, rb⟩ := q1
            cases (show v = Value.ref b from rx)
            cases (show u = Value.ref a from ry)
            refine wpAny_in_heap (nk_room (by omega)) ⟨nested_is I ka rfl, hd8⟩ h5 h4 (opd_fin (z := .bl _) (I.tok _) rfl hr (d := .bl (atKey xs k).isSome) (by rw [VR]) ?_)
            rcases entry_get (K := Unit) (k := k) h9 kvs H G X.ml h6 vr with ⟨e1, e2⟩ | ⟨d, w, p, e1, e2, _, _⟩
            · rw [e2]; rw [e1] at t; simpa using t
            · rw [e2]; rw [e1] at t; simpa using t
        | _ => exact t.elim
      | _ => exact t.elim
    · split at t
      · rename_i kvs e
        cases ek : dx.kK with
        | none => rw [ek] at t; exact t.elim
        | some k =>
          rw [ek] at t
          have t : P (.bl (false != (dval kvs k).isSome)) G := t
          obtain ⟨a, ws, rfl, rd, e1, vr⟩ := dicK_at hr q2 e
          cases (show u = Value.ref a from ry)
          have ex := kK_vr q1 ek
          subst ex
          have g : DGet H a (kV k) (valV ws k) := .inl ⟨ws, k, rd, rfl, rfl⟩
          refine d_in (by omega) I g rx fun s' I' => opd_fin (z := .bl _) I' rfl hr (d := .bl (valV ws k).isSome) (by rw [VR]) ?_
          rcases dval_vr k e1 vr with ⟨e2, e3⟩ | ⟨d, w, e2, e3, _⟩
          · rw [e3]; rw [e2] at t; simpa using t
          · rw [e3]; rw [e2] at t; simpa using t
      · exact t.elim
theorem od_notin (hu : X.A.units + 65 < cLine) : OpD X (compareOp .NotIn) (dIn true) := opd_of fun pins s σ H G x y v u dx dy P I rx ry hr q1 q2 t => by
  unfold dIn at t
  split at t
  · rename_i ds e
    obtain ⟨⟨p1, p2, s1, s2⟩, t⟩ := t
    have hp := der_dp hr q2 (by rw [e, plainD]; exact p2)
    rw [e, py] at hp
    obtain ⟨as, r1⟩ := Dp.reads I _ _ v (q1.dp p1) rx
    obtain ⟨bs, r2⟩ := Dp.reads I _ _ u hp ry
    exact SeqAt.notIn_list_reads r2 r1 s2 (SeqAt.canLay_of_shaped s1) (room_in_shaped s1 hu) (opd_fin (z := .bl _) I rfl hr (d := .bl (!(pys ds).any fun z => PyData.eqv z (py dx))) (by rw [VR]) (by simpa using t))
  · rename_i ds e
    obtain ⟨⟨p1, p2, s1, s2⟩, t⟩ := t
    have hp := der_dp hr q2 (by rw [e, plainD]; exact p2)
    rw [e, py] at hp
    obtain ⟨as, r1⟩ := Dp.reads I _ _ v (q1.dp p1) rx
    obtain ⟨bs, r2⟩ := Dp.reads I _ _ u hp ry
    exact SeqAt.notIn_tuple_reads r2 r1 s2 (SeqAt.canLay_of_shaped s1) (room_in_shaped s1 hu) (opd_fin (z := .bl _) I rfl hr (d := .bl (!(pys ds).any fun z => PyData.eqv z (py dx))) (by rw [VR]) (by simpa using t))
  · split at t
    · rename_i kvs e
      cases dx with
      | nd kd ds =>
        cases kd with
        | tup =>
          have t : (match D.key (.nd .tup ds) with | some k => k.depth ≤ 8 ∧ P (.bl (true != (dval kvs k).isSome)) G | none => False) := t
          cases ek : D.key (.nd .tup ds) with
          | none => rw [ek] at t; exact t.elim
          | some k =>
            rw [ek] at t
            obtain ⟨hd8, t⟩ := (show k.depth ≤ 8 ∧ P (.bl (true != (dval kvs k).isSome)) G from t)
            have ka := key_at q1 ek
            obtain ⟨a, ws, rfl, dn, vr⟩ := dicN_at hr q2 e
            obtain ⟨xs, es, ep, h1, h2, h3, h4, h5, h6, h7, h8, h9⟩ := DnAt.of I dn
            rw [VR] at q1
            obtain ⟨b, vs, rfl, hb, rb⟩ := q1
            cases (show v = Value.ref b from rx)
            cases (show u = Value.ref a from ry)
            show wpAny _ _ (do return Value.bool (!(← contains (.ref a) (.ref b)))) _ X.xe s
            refine wpAny_bind (wpAny_contains_heap (nk_room (X := X) (A := X.A) (by omega)) ⟨nested_is I ka rfl, hd8⟩ h5 h4 (wpAny_pure (opd_fin (z := .bl _) (I.tok _) rfl hr (d := .bl (!(atKey xs k).isSome)) (by rw [VR]) ?_)))
            rcases entry_get (K := Unit) (k := k) h9 kvs H G X.ml h6 vr with ⟨e1, e2⟩ | ⟨d, w, p, e1, e2, _, _⟩
            · rw [e2]; rw [e1] at t; simpa using t
            · rw [e2]; rw [e1] at t; simpa using t
        | _ => exact t.elim
      | _ => exact t.elim
    · split at t
      · rename_i kvs e
        cases ek : dx.kK with
        | none => rw [ek] at t; exact t.elim
        | some k =>
          rw [ek] at t
          have t : P (.bl (true != (dval kvs k).isSome)) G := t
          obtain ⟨a, ws, rfl, rd, e1, vr⟩ := dicK_at hr q2 e
          cases (show u = Value.ref a from ry)
          have ex := kK_vr q1 ek
          subst ex
          have g : DGet H a (kV k) (valV ws k) := .inl ⟨ws, k, rd, rfl, rfl⟩
          refine d_notIn (by omega) I g rx fun s' I' => opd_fin (z := .bl _) I' rfl hr (d := .bl (!(valV ws k).isSome)) (by rw [VR]) ?_
          rcases dval_vr k e1 vr with ⟨e2, e3⟩ | ⟨d, w, e2, e3, _⟩
          · rw [e3]; rw [e2] at t; simpa using t
          · rw [e3]; rw [e2] at t; simpa using t
      · exact t.elim
end
end DL
namespace DL
open PySem PySem.Spec PyProof.Rows L2

section
variable {K : Ml} {H : Hp} {G : DHp}
/-! ### a dict's entries behind a store -/
theorem dput_map {κ : Type} [DecidableEq κ] (kvs : List (κ × D)) (k : κ) (v : D) : (dput kvs k v).map (·.1) = if (dval kvs k).isSome then kvs.map (·.1) else kvs.map (·.1) ++ [k] := by
  unfold dput
  rw [any_dval]
  split
  · rw [List.map_map]
    refine List.map_congr_left fun x _ => ?_
    simp only [Function.comp]
    split <;> rfl
  · simp
theorem put_map {κ : Type} [DecidableEq κ] (kvs : List (κ × V)) (k : κ) (v : V) : (putK kvs k v).map (·.1) = if (valV kvs k).isSome then kvs.map (·.1) else kvs.map (·.1) ++ [k] := by
  unfold putK
  rw [valV_any]
  split
  · rw [List.map_map]
    refine List.map_congr_left fun x _ => ?_
    simp only [Function.comp]
    split <;> rfl
  · simp
theorem dval_some {κ : Type} [DecidableEq κ] {k : κ} : ∀ {ws : List (κ × V)} {kvs : List (κ × D)}, ws.map (·.1) = kvs.map (·.1) → (valV ws k).isSome = (dval kvs k).isSome
  | [], [], _ => rfl
  | [], _ :: _, h => by simp at h
  | _ :: _, [], h => by simp at h
  | (k1, v) :: ws, (k2, d) :: kvs, h => by
    simp only [List.map_cons, List.cons.injEq] at h
    obtain ⟨h1, h2⟩ := h
    subst h1
    by_cases hk : k1 = k
    · simp [dval, valV, hk]
    · have := dval_some (k := k) h2
      simpa [dval, valV, hk] using this
theorem repl_vr {κ : Type} [DecidableEq κ] (k : κ) {d : D} {v : V} (hv : VR K H G d v) : ∀ {ws : List (κ × V)} {kvs : List (κ × D)}, ws.map (·.1) = kvs.map (·.1) → VRs K H G (kvs.map (·.2)) (ws.map (·.2)) →
    VRs K H G ((kvs.map fun p => if p.1 = k then (p.1, d) else p).map (·.2)) ((ws.map fun p => if p.1 = k then (p.1, v) else p).map (·.2))
  | [], [], _, _ => .nil
  | [], _ :: _, h, _ => by simp at h
  | _ :: _, [], h, _ => by simp at h
  | (k1, w) :: ws, (k2, e) :: kvs, h, r => by
    simp only [List.map_cons, List.cons.injEq] at h
    obtain ⟨h1, h2⟩ := h
    subst h1
    obtain ⟨v', r', eq, q, t⟩ := VRs.uncons r
    simp only [List.map_cons, List.cons.injEq] at eq
    obtain ⟨rfl, rfl⟩ := eq
    by_cases hk : k1 = k
    · simp only [List.map_cons, hk, if_true]
      exact .cons hv (repl_vr k hv h2 t)
    · simp only [List.map_cons, hk, if_false]
      exact .cons q (repl_vr k hv h2 t)
theorem put_vr {κ : Type} [DecidableEq κ] (k : κ) {d : D} {v : V} (hv : VR K H G d v) {ws : List (κ × V)} {kvs : List (κ × D)} (h : ws.map (·.1) = kvs.map (·.1)) (r : VRs K H G (kvs.map (·.2)) (ws.map (·.2))) :
    (putK ws k v).map (·.1) = (dput kvs k d).map (·.1) ∧ VRs K H G ((dput kvs k d).map (·.2)) ((putK ws k v).map (·.2)) := by
  refine ⟨by rw [put_map, dput_map, h, dval_some h], ?_⟩
  unfold dput putK
  rw [any_dval, valV_any, dval_some h]
  split
  · exact repl_vr k hv h r
  · rw [List.map_append, List.map_append]
    exact r.append (.cons hv .nil)
theorem dput_len {κ : Type} [DecidableEq κ] (kvs : List (κ × D)) (k : κ) (v : D) : (dput kvs k v).length ≤ kvs.length + 1 := by
  unfold dput
  split <;> simp
end

section
variable {X : Cx}
/-- the entries that stand behind a store in a dict with nested keys -/
theorem dn_put {pins : List (Addr × Obj)} {σ : L2.St} {H : Hp} {G : DHp} {s : Shared} {a b : Addr} {kvs : List (NestedKey × D)} {k : NestedKey} {d : D} {v : V} {u : Value} {h' : Heap} {t' : Nat} {es : Array DictEntry} {ep : Nat} {ws : List V} {xs : List (NestedKey × Addr × Value)}
    (I : Inv X pins σ H s) (hr : HR X.ml H G) (hG : G a = some (.dN kvs)) (hH : H a = some (rawO a es ep)) (hsm : (a == sysModules) = false) (hm : s.heap.DictOfH (nestedKind X.prog X.w) a xs) (hks : xs.map (·.1) = kvs.map (·.1)) (hat : ∀ x ∈ xs, KeyAt X.ml H x.1 (.ref x.2.1) ∧ x.1.depth ≤ 8)
    (hvs : Vals ws (xs.map (·.2.2))) (vr : VRs X.ml H G (kvs.map (·.2)) ws) (hk : KeyAt X.ml H k (.ref b)) (h8 : k.depth ≤ 8) (hv : VR X.ml H G d v) (ru : RelV v u) (hlen : kvs.length < sizeLine) (hm' : h'.DictOfH (nestedKind X.prog X.w) a (storedH xs k b u)) (hs : Heap.SameBut a s.heap h') :
    ∃ H', Inv X pins σ H' { s with heap := h', toks := t' } ∧ Ext H G H' (up G a (.dN (dput kvs k d))) ∧ HR X.ml H' (up G a (.dN (dput kvs k d))) := by
  obtain ⟨o', es', ep', ho', hc', hd', he', _, hn'⟩ := hm'
  have raw : h'.DictRaw a es' ep' := ⟨o', ho', hc', hd'⟩
  have x : Ext H G (upd H a (rawO a es' ep')) (up G a (.dN (dput kvs k d))) := .write hG
  refine ⟨_, dn_write (t' := t') I hH hs raw, x, hr.write hG ?_⟩
  have some_eq : (atKey xs k).isSome = (dval kvs k).isSome := by
    rcases entry_get (K := Unit) (k := k) hvs kvs H G X.ml hks vr with ⟨e1, e2⟩ | ⟨_, _, _, e1, e2, _, _⟩ <;> rw [e1, e2] <;> rfl
  have keys : (storedH xs k b u).map (·.1) = (dput kvs k d).map (·.1) := by
    rw [dput_map, ← some_eq, ← hks]
    unfold storedH
    split
    · rw [List.map_map]
      refine List.map_congr_left fun x _ => ?_
      simp only [Function.comp, putAt]
      split <;> rfl
    · simp
  have vals : ∃ ws', Vals ws' ((storedH xs k b u).map (·.2.2)) ∧ VRs X.ml H G ((dput kvs k d).map (·.2)) ws' := by
    have go : ∀ {xs : List (NestedKey × Addr × Value)} {kvs : List (NestedKey × D)} {ws : List V}, xs.map (·.1) = kvs.map (·.1) → Vals ws (xs.map (·.2.2)) → VRs X.ml H G (kvs.map (·.2)) ws →
        ∃ ws', Vals ws' ((xs.map (putAt k u)).map (·.2.2)) ∧ VRs X.ml H G ((kvs.map fun p => if p.1 = k then (p.1, d) else p).map (·.2)) ws' := by
      intro xs
      induction xs with
      | nil =>
        intro kvs ws h1 h2 h3
        cases kvs with
        | nil => exact ⟨[], .nil, .nil⟩
        | cons _ _ => simp at h1
      | cons y xs ih =>
        intro kvs ws h1 h2 h3
        cases kvs with
        | nil => simp at h1
        | cons z kvs =>
          obtain ⟨k2, e⟩ := z
          simp only [List.map_cons, List.cons.injEq] at h1
          obtain ⟨v0, w0, rfl, q0, t0⟩ := VRs.uncons h3
          cases h2 with
          | cons r1 r2 =>
            obtain ⟨ws', a1, a2⟩ := ih h1.2 r2 t0
            by_cases hkk : k2 = k
            · refine ⟨v :: ws', ?_, ?_⟩
              · rw [List.map_cons, List.map_cons]
                have : (putAt k u y).2.2 = u := by simp [putAt, h1.1, hkk]
                rw [this]
                exact .cons ru a1
              · simp only [List.map_cons, hkk, if_true]
                exact .cons hv a2
            · refine ⟨v0 :: ws', ?_, ?_⟩
              · rw [List.map_cons, List.map_cons]
                have : (putAt k u y).2.2 = y.2.2 := by simp [putAt, h1.1, hkk]
                rw [this]
                exact .cons r1 a1
              · simp only [List.map_cons, hkk, if_false]
                exact .cons q0 a2
    unfold storedH dput
    rw [any_dval, some_eq]
    split
    · exact go hks hvs vr
    · refine ⟨ws ++ [v], ?_, ?_⟩
      · rw [List.map_append]
        exact hvs.append (.cons ru .nil)
      · rw [List.map_append]
        exact vr.append (.cons hv .nil)
  obtain ⟨ws', v1, v2⟩ := vals
  refine ⟨ws', ⟨storedH xs k b u, es', ep', upd_same, hsm, he', keys, by rw [← keys]; exact hn', by rw [List.length_map]; have := dput_len kvs k d; omega, fun y hy => ?_, v1⟩, v2.ext hr x⟩
  have old : ∀ y ∈ xs, KeyAt X.ml (upd H a (rawO a es' ep')) y.1 (.ref y.2.1) ∧ y.1.depth ≤ 8 := fun y hy => ⟨(hat y hy).1.ext hr x, (hat y hy).2⟩
  unfold storedH at hy
  split at hy
  · obtain ⟨z, hz, rfl⟩ := List.mem_map.mp hy
    have e1 : (putAt k u z).1 = z.1 := by unfold putAt; split <;> rfl
    have e2 : (putAt k u z).2.1 = z.2.1 := by unfold putAt; split <;> rfl
    rw [e1, e2]
    exact old z hz
  · rcases List.mem_append.mp hy with hy | hy
    · exact old y hy
    · have : y = (k, b, u) := by simpa using hy
      subst this
      exact ⟨hk.ext hr x, h8⟩

/-! ### stores by places and keys -/
abbrev DSet := D → D → D → DHp → (DHp → Prop) → Prop
def liftSet (K : Ml) (r : DSet) : TSet := fun o i v H Q => ∃ do_ di dv G P, HR K H G ∧ VR K H G do_ o ∧ VR K H G di i ∧ VR K H G dv v ∧ r do_ di dv G P ∧ ∀ G' H', P G' → Ext H G H' G' → HR K H' G' → Q H'
def dSet : DSet := fun o i v G Q => match o with
  | .ref a => (match G a with
    | some (.lst ds) => (match i with
      | .int k => (match ixN ds.length k with
        | some j => Q (up G a (.lst (ds.set j v)))
        | none => False)
      | _ => False)
    | some (.dN kvs) => (match i with
      | .nd .tup ks => (match D.key (.nd .tup ks) with
        | some k => (k.depth ≤ 8 ∧ kvs.length < sizeLine) ∧ Q (up G a (.dN (dput kvs k v)))
        | none => False)
      | _ => False)
    | some (.dK kvs) => (match i.kK with
      | some k => kvs.length < sizeLine ∧ Q (up G a (.dK (dput kvs k v)))
      | none => False)
    | _ => False)
  | _ => False
theorem pset_d (hu : X.A.units + 64 < cLine) : PSet X (liftSet X.ml dSet) := by
  intro pins s σ H o i v ov iv u Q I ro ri rv ⟨do_, di, dv, G, P, hr, q1, q2, q3, t, k⟩
  cases do_ with
  | ref a =>
    rw [VR] at q1
    subst q1
    cases (show ov = Value.ref a from ro)
    cases hG : G a with
    | none =>
      have : False := by simpa [dSet, hG] using t
      exact this.elim
    | some ob =>
      cases ob with
      | ins C fs =>
        have : False := by simpa [dSet, hG] using t
        exact this.elim
      | lst ds =>
        cases di with
        | int kk =>
          rw [VR] at q2; subst q2
          obtain ⟨vs, hv, r⟩ := hr a _ hG
          cases hj : ixN ds.length kk with
          | none =>
            have : False := by simpa [dSet, hG, hj] using t
            exact this.elim
          | some j =>
            have t : P (up G a (.lst (ds.set j dv))) := by simpa [dSet, hG, hj] using t
            have x : Ext H G (upd H a (.lst (vs.set j v))) (up G a (.lst (ds.set j dv))) := .write hG
            exact set_list pins s σ H (.ref a) _ v _ _ u Q I rfl ri rv ⟨a, vs, kk, j, rfl, rfl, hv, by rw [r.length]; exact hj, k _ _ t x (hr.write hG ⟨_, upd_same, (r.set j q3).ext hr x⟩)⟩
        | _ =>
          have : False := by simpa [dSet, hG] using t
          exact this.elim
      | dK kvs =>
        cases ek : di.kK with
        | none =>
          have : False := by simpa [dSet, hG, ek] using t
          exact this.elim
        | some kk =>
          have t : kvs.length < sizeLine ∧ P (up G a (.dK (dput kvs kk dv))) := by simpa [dSet, hG, ek] using t
          obtain ⟨ws, hw, hks, r⟩ := hr a _ hG
          have e := kK_vr q2 ek
          subst e
          have x : Ext H G (upd H a (.dK (putK ws kk v))) (up G a (.dK (dput kvs kk dv))) := .write hG
          obtain ⟨p1, p2⟩ := put_vr kk q3 hks r
          have hl : ws.length < sizeLine := by
            have := congrArg List.length hks
            rw [List.length_map, List.length_map] at this
            rw [this]; exact t.1
          exact d_setItem (by omega) I (.inl ⟨ws, kk, hw, rfl, hl, rfl⟩) ri rv fun s' I' => ⟨_, I', k _ _ t.2 x (hr.write hG ⟨_, upd_same, p1, p2.ext hr x⟩)⟩
      | dN kvs =>
        cases di with
        | nd kd ks =>
          cases kd with
          | tup =>
            cases ek : D.key (.nd .tup ks) with
            | none =>
              have : False := by simpa [dSet, hG, ek] using t
              exact this.elim
            | some kk =>
              have t : (kk.depth ≤ 8 ∧ kvs.length < sizeLine) ∧ P (up G a (.dN (dput kvs kk dv))) := by simpa [dSet, hG, ek] using t
              obtain ⟨⟨h8, hl⟩, t⟩ := t
              have ka := key_at q2 ek
              rw [VR] at q2
              obtain ⟨b, vs, rfl, hb, rb⟩ := q2
              cases (show iv = Value.ref b from ri)
              obtain ⟨ws, dn, vr⟩ := hr a _ hG
              obtain ⟨xs, es, ep, h1, h2, h3, h4, h5, h6, h7, h9, h10⟩ := DnAt.of I dn
              refine wpAny_setItem_heap (hsz := by have := congrArg List.length h6; rw [List.length_map] at this; rw [this]; exact h7) (nk_room hu) ⟨nested_is I ka rfl, h8⟩ h4 fun h' hm' hs => ?_
              obtain ⟨H', I', x, r'⟩ := dn_put (t' := s.toks + (nestedKind X.prog X.w).draws kk) I hr hG h1 h5 h4 h6 h9 h10 vr ka h8 q3 rv hl hm' hs
              exact ⟨H', I', k _ _ t x r'⟩
          | _ =>
            have : False := by simpa [dSet, hG] using t
            exact this.elim
        | _ =>
          have : False := by simpa [dSet, hG] using t
          exact this.elim
  | _ => exact t.elim
def gdSub (To Ti : DTE) (r : DSet) : DTG := fun v η G Q => To η G fun o G1 => Ti η G1 fun i G2 => r o i v G2 fun G3 => Q η G3
theorem pgd_sub {o i : Expr} {To Ti : DTE} {r : DSet} {pos : Pos} (ho : PED X o To) (hi : PED X i Ti) (hs : PSet X (liftSet X.ml r))
    (ha : ∀ v, assign (.Subscript o i pos) X.env v = (do
      let ov ← holding [v] (eval o X.env)
      let iv ← holding [v, ov] (eval i X.env)
      standAt pos
      holding [v, ov, iv] (setItem ov iv v)
      release [v, ov, iv] []) := by intro _; rfl) : PGD X (.Subscript o i pos) [] (gdSub To Ti r) :=
  PG.impI (pg_sub ho hi hs ha) fun _ _ σ H v Q _ ⟨d, η, G, P, q, hs', hr, t, k⟩ =>
    ⟨η, G, _, hs', hr, t, fun d1 G1 v1 H1 p1 x1 r1 q1 => ⟨η, G1, _, hs'.ext hr x1, r1, p1, fun d2 G2 v2 H2 p2 x2 r2 q2 =>
      ⟨d1, d2, d, G2, _, r2, q1.ext r1 x2, q2, (q.ext hr x1).ext r1 x2, p2, fun G3 H3 p3 x3 r3 => k η G3 σ H3 p3 ((x1.trans x2).trans x3) (hs'.ext hr ((x1.trans x2).trans x3)) r3 rfl⟩⟩⟩

/-! ### what stands at a place, at a key -/
abbrev IxD (X : Cx) (r : DR2) : Prop := IxR X (liftR2 X.ml r)
/-- the item at a place -/
def atD (ds : List D) (y : D) (Q : D → Prop) : Prop := match y with
  | .int i => (match atI ds i with
    | some d => Q d
    | none => False)
  | _ => False
def dIx : DR2 := fun x y G Q => match der x G with
  | .nd .lst ds => atD ds y fun d => Q d G
  | .nd .scr ds => atD ds y fun d => Q d G
  | .nd .tup ds => atD ds y fun d => Q d G
  | _ => match dicN x G with
    | some kvs => (match y with
      | .nd .tup ks => (match D.key (.nd .tup ks) with
        | some k => k.depth ≤ 8 ∧ (match dval kvs k with
          | some d => Q d G
          | none => False)
        | none => False)
      | _ => False)
    | none => match dicK x G with
      | some kvs => (match y.kK with
        | some k => (match dval kvs k with
          | some d => Q d G
          | none => False)
        | none => False)
      | none => False
theorem atI_vr {K : Ml} {H : Hp} {G : DHp} {ds : List D} {vs : List V} {i : Int} {d : D} (r : VRs K H G ds vs) (e : atI ds i = some d) : ∃ v, atI vs i = some v ∧ VR K H G d v := by
  unfold atI at e ⊢
  rw [r.length]
  cases h : ixN ds.length i with
  | none => rw [h] at e; cases e
  | some j =>
    rw [h] at e
    obtain ⟨v, e1, q⟩ := r.get (show ds[j]? = some d from e)
    exact ⟨v, e1, q⟩
theorem lift_of {K : Ml} {H : Hp} {G : DHp} {P : D → DHp → Prop} {Q : VK} {d : D} {v : V} (k : ∀ d G' v H', P d G' → Ext H G H' G' → HR K H' G' → VR K H' G' d v → Q v H') (hr : HR K H G) (p : P d G) (q : VR K H G d v) : Q v H := k d G v H p (.refl _ _) hr q
theorem ixd (hu : X.A.units + 64 < cLine) : IxD X dIx := by
  intro value slice pins s σ H x y v u Q I rx ry ⟨dx, dy, G, P, hr, q1, q2, t, k⟩ hs
  have doL : ∀ (a : Addr) (ds : List D) (vs : List V), x = .ref a → SqL X.K H a vs → VRs X.ml H G ds vs → (atD ds dy fun d => P d G) → wpAny (model X.prog X.w) X.A (subscriptTail value slice v u) (EP X pins σ Q) X.xe s := by
    intro a ds vs e hq r t
    cases dy with
    | int i =>
      rw [VR] at q2; subst q2
      cases ea : atI ds i with
      | none =>
        have : False := by simpa [atD, ea] using t
        exact this.elim
      | some d =>
        have t : P d G := by simpa [atD, ea] using t
        obtain ⟨z, e2, q⟩ := atI_vr r ea
        exact ix_list value slice pins s σ H x _ v u Q I rx ry ⟨a, vs, i, z, e, rfl, hq, e2, lift_of k hr t q⟩ hs
    | _ => exact t.elim
  unfold dIx at t
  split at t
  · rename_i ds e
    obtain ⟨a, vs, e1, h1, r1⟩ := der_lst hr q1 e
    exact doL a ds vs e1 (.inl (.inl h1)) r1 t
  · rename_i ds e
    have e := der_of e (fun _ h => nomatch h)
    rw [e, VR] at q1
    obtain ⟨a, vs, e1, h1, r1⟩ := q1
    exact doL a ds vs e1 (held_lst h1 (.inr rfl)) r1 t
  · rename_i ds e
    have e := der_of e (fun _ h => nomatch h)
    rw [e, VR] at q1
    obtain ⟨a, vs, e1, h1, r1⟩ := q1
    cases dy with
    | int i =>
      rw [VR] at q2; subst q2
      cases ea : atI ds i with
      | none =>
        have : False := by simpa [atD, ea] using t
        exact this.elim
      | some d =>
        have t : P d G := by simpa [atD, ea] using t
        obtain ⟨z, e2, q⟩ := atI_vr r1 ea
        exact ix_tup value slice pins s σ H x _ v u Q I rx ry ⟨a, vs, i, z, e1, rfl, h1, e2, lift_of k hr t q⟩ hs
    | _ => exact t.elim
  · split at t
    · rename_i kvs e
      cases dy with
      | nd kd ds =>
        cases kd with
        | tup =>
          cases ek : D.key (.nd .tup ds) with
          | none =>
            have : False := by simpa [ek] using t
            exact this.elim
          | some kk =>
            simp only [ek] at t
            obtain ⟨h8, t⟩ := t
            have ka := key_at q2 ek
            obtain ⟨a, ws, rfl, dn, vr⟩ := dicN_at hr q1 e
            obtain ⟨xs, es, ep, h1, h2, h3, h4, h5, h6, h7, h9, h10⟩ := DnAt.of I dn
            rw [VR] at q2
            obtain ⟨b, vs, rfl, hb, rb⟩ := q2
            cases (show v = Value.ref a from rx)
            cases (show u = Value.ref b from ry)
            rcases entry_get (K := Unit) (k := kk) h10 kvs H G X.ml h6 vr with ⟨e1, e2⟩ | ⟨d, w, p, e1, e2, rw', qw⟩
            · rw [e1] at t; exact t.elim
            · rw [e1] at t
              exact tail_any h4.typeIs PySem.F.slot_dict_getitem.lookup (wpAny_getItem_heap (nk_room hu) ⟨nested_is I ka rfl, h8⟩ h4 e2 ⟨w, H, I.tok _, rw', lift_of k hr t qw⟩) hs
        | _ => exact t.elim
      | _ => exact t.elim
    · split at t
      · rename_i kvs e
        cases ek : dy.kK with
        | none => rw [ek] at t; exact t.elim
        | some kk =>
          rw [ek] at t
          simp only at t
          obtain ⟨a, ws, rfl, rd, e1, vr⟩ := dicK_at hr q1 e
          cases (show v = Value.ref a from rx)
          have ex := kK_vr q2 ek
          subst ex
          rcases dval_vr kk e1 vr with ⟨e2, e3⟩ | ⟨d, w, e2, e3, qw⟩
          · rw [e2] at t; exact t.elim
          · rw [e2] at t
            have g : DGet H a (kV kk) (some w) := .inl ⟨ws, kk, rd, rfl, e3.symm⟩
            exact tail_any (dict_typeIs I g) PySem.F.slot_dict_getitem.lookup (d_getItem (by omega) I g ry fun w' s' I' rw' => ⟨w, H, I', rw', lift_of k hr t qw⟩) hs
      · exact t.elim
theorem ped_ix {a b : Expr} {pos : Pos} {r : DR2} {Ta Tb : DTE} (hr : IxD X r) (ha : PED X a Ta) (hb : PED X b Tb) (hs : PlainIx b := by intro _ _; rfl) : PED X (.Subscript a b pos) (dOp r Ta Tb) :=
  PE.impI (pe_ix hr ha hb hs) fun _ _ _ _ _ _ h => op_lift h
/-! ### slices -/
abbrev DTO := DSt → DHp → (Option Int → DHp → Prop) → Prop
def liftO (K : Ml) (T : DTO) : TO := fun σ H Q => ∃ η G P, SR K H G σ η ∧ HR K H G ∧ T η G P ∧ ∀ o G' H', P o G' → Ext H G H' G' → HR K H' G' → Q o H'
abbrev POD (X : Cx) (e : Option Expr) (T : DTO) : Prop := PO X e (liftO X.ml T)
theorem PO.impI {e : Option Expr} {t t' : TO} (h : PO X e t) (i : ∀ pins s σ H Q, Inv X pins σ H s → t' σ H Q → t σ H Q) : PO X e t' := ⟨fun pins s σ H Q I q => h.run pins s σ H Q I (i _ _ _ _ _ I q)⟩
def dNoPart : DTO := fun _ G Q => Q none G
def dPart (T : DTE) : DTO := fun η G Q => T η G fun d G1 => match d with
  | .int i => Q (some i) G1
  | _ => False
theorem pod_none : POD X none dNoPart := PO.impI po_none fun _ _ _ H Q _ ⟨η, G, P, hs, hr, t, k⟩ => k none G H t (.refl _ _) hr
theorem pod_some {e : Expr} {T : DTE} (h : PED X e T) : POD X (some e) (dPart T) := PO.impI (po_some h) fun _ _ _ H Q _ ⟨η, G, P, hs, hr, t, k⟩ => ⟨η, G, _, hs, hr, t, fun d G1 v H1 p x r q => by
  cases d with
  | int i => rw [VR] at q; exact ⟨i, q, k (some i) G1 H1 p x r⟩
  | _ => exact p.elim⟩
def cutD (xs : List D) (lo hi : Option Int) : List D := (xs.drop (HT.sIx xs.length 0 lo)).take (HT.sIx xs.length xs.length hi - HT.sIx xs.length 0 lo)
theorem cut_vr {K : Ml} {H : Hp} {G : DHp} {ds : List D} {vs : List V} (r : VRs K H G ds vs) (lo hi : Option Int) : VRs K H G (cutD ds lo hi) (cutV vs lo hi) := by
  unfold cutD cutV
  rw [r.length]
  exact (r.drop _).take _
abbrev DSl := D → Option Int → Option Int → DHp → DVK → Prop
def liftSl (K : Ml) (r : DSl) : V → Option Int → Option Int → Hp → VK → Prop := fun x lo hi H Q => ∃ d G P, HR K H G ∧ VR K H G d x ∧ r d lo hi G P ∧ ∀ d G' v H', P d G' → Ext H G H' G' → HR K H' G' → VR K H' G' d v → Q v H'
def dSl : DSl := fun x lo hi G Q => match der x G with
  | .nd .lst ds => Q (.nd .lst (cutD ds lo hi)) G
  | .nd .tup ds => Q (.nd .tup (cutD ds lo hi)) G
  | _ => False
theorem sld : SlR X (liftSl X.ml dSl) := by
  intro pins s σ H x v vl vu lo hi sl Q I rx hs pl pu ⟨dx, G, P, hr, q1, t, k⟩
  unfold dSl at t
  split at t
  · rename_i ds e
    obtain ⟨a, vs, e1, h1, r1⟩ := der_lst hr q1 e
    refine sl_list pins s σ H x v vl vu lo hi sl Q I rx hs pl pu ⟨a, vs, e1, .inl (.inl h1), fun p hp => ?_⟩
    have x2 : Ext H G (upd H p (.lst (cutV vs lo hi))) G := .laid hp
    refine k _ G _ _ t x2 (hr.laid hp) ?_
    rw [VR]
    exact ⟨p, _, rfl, ⟨hr.free hp, upd_same⟩, (cut_vr r1 lo hi).ext hr x2⟩
  · rename_i ds e
    have e := der_of e (fun _ h => nomatch h)
    subst e
    rw [VR] at q1
    obtain ⟨a, vs, e1, h1, r1⟩ := q1
    refine sl_tupA pins s σ H x v vl vu lo hi sl Q I rx hs pl pu ⟨a, vs, e1, h1, fun hw => ?_, fun _ p hp => ?_⟩
    · refine k _ G _ H t (.refl _ _) hr ?_
      rw [VR]
      have e2 : cutD ds lo hi = ds := by
        unfold cutD
        have hw' : HT.sIx ds.length 0 lo = 0 ∧ HT.sIx ds.length ds.length hi = ds.length := by rw [← r1.length]; exact hw
        rw [hw'.1, hw'.2, List.drop_zero, Nat.sub_zero, List.take_length]
      rw [e2]
      exact ⟨a, vs, rfl, h1, r1⟩
    · have x2 : Ext H G (upd H p (.tup (cutV vs lo hi))) G := .laid hp
      refine k _ G _ _ t x2 (hr.laid hp) ?_
      rw [VR]
      exact ⟨p, _, rfl, .inl (.inl upd_same), (cut_vr r1 lo hi).ext hr x2⟩
  · exact t.elim
def dSlice (r : DSl) (T : DTE) (Tl Th : DTO) : DTE := fun η G Q => T η G fun x G1 => Tl η G1 fun l G2 => Th η G2 fun u G3 => r x l u G3 Q
theorem ped_slice {e : Expr} {lo hi : Option Expr} {p2 pos : Pos} {r : DSl} {T : DTE} {Tl Th : DTO} (hr : SlR X (liftSl X.ml r)) (he : PED X e T) (hl : POD X lo Tl) (hu : POD X hi Th) : PED X (.Subscript e (.Slice lo hi none p2) pos) (dSlice r T Tl Th) :=
  PE.impI (pe_slice hr he hl hu) fun _ _ σ H Q _ ⟨η, G, P, hs, hr, t, k⟩ =>
    ⟨η, G, _, hs, hr, t, fun d1 G1 v1 H1 p1 x1 r1 q1 => ⟨η, G1, _, hs.ext hr x1, r1, p1, fun l G2 H2 p2 x2 r2 => ⟨η, G2, _, (hs.ext hr x1).ext r1 x2, r2, p2, fun u G3 H3 p3 x3 r3 =>
      ⟨d1, G3, P, r3, (q1.ext r1 x2).ext r2 x3, p3, fun d G' v H' p x r q => k d G' v H' p (((x1.trans x2).trans x3).trans x) r q⟩⟩⟩⟩
/-! ### chains, minus -/
def dChain (r r' : DR2) (Ta Tb Tc : DTE) : DTE := fun η G Q => Ta η G fun x G1 => Tb η G1 fun y G2 => r x y G2 fun z G3 => match z with
  | .bl k => if k = true then Tc η G3 fun w G4 => r' y w G4 Q else Q (.bl false) G3
  | _ => False
end
end DL
namespace DL
open PySem PySem.Spec PyProof.Rows L2

section
variable {X : Cx}
/-! ### chains, minus -/
theorem chain_lift {r r' : DR2} {Ta Tb Tc : DTE} {K : Ml} {σ : L2.St} {H : Hp} {Q : VK} (h : liftE K (dChain r r' Ta Tb Tc) σ H Q) : tChain (liftR2 K r) (liftR2 K r') (liftE K Ta) (liftE K Tb) (liftE K Tc) σ H Q :=
  let ⟨η, G, P, hs, hr, t, k⟩ := h
  ⟨η, G, _, hs, hr, t, fun d1 G1 v1 H1 p1 x1 r1 q1 => ⟨η, G1, _, hs.ext hr x1, r1, p1, fun d2 G2 v2 H2 p2 x2 r2 q2 =>
    ⟨d1, d2, G2, _, r2, q1.ext r1 x2, q2, p2, fun z G3 vz H3 p3 x3 r3 q3 => by
      cases z with
      | bl c =>
        rw [VR] at q3
        refine ⟨c, q3, ?_⟩
        cases c with
        | true =>
          rw [if_pos rfl]
          have p3 : Tc η G3 fun w G4 => r' d2 w G4 P := by simpa using p3
          exact ⟨η, G3, _, ((hs.ext hr x1).ext r1 x2).ext r2 x3, r3, p3, fun dw G4 vw H4 p4 x4 r4 q4 => ⟨d2, dw, G4, P, r4, ((q2.ext r2 x3).ext r3 x4), q4, p4, fun d G' v H' p x r q => k d G' v H' p ((((x1.trans x2).trans x3).trans x4).trans x) r q⟩⟩
        | false =>
          rw [if_neg Bool.false_ne_true]
          have p3 : P (.bl false) G3 := by simpa using p3
          exact k _ G3 _ H3 p3 ((x1.trans x2).trans x3) r3 (by rw [VR])
      | _ => exact p3.elim⟩⟩⟩
theorem ped_chain {a b c : Expr} {op op' : CmpOp} {pos : Pos} {r r' : DR2} {Ta Tb Tc : DTE} (ho : OpD X (compareOp op) r) (ho' : OpD X (compareOp op') r') (ha : PED X a Ta) (hb : PED X b Tb) (hc : PED X c Tc)
    (hm : lastMarks [op, op'] [b, c] = false := by with_unfolding_all rfl) : PED X (.Compare a [op, op'] [b, c] pos) (dChain r r' Ta Tb Tc) :=
  PE.impI (pe_chain ho ho' ha hb hc hm) fun _ _ _ _ _ _ h => chain_lift h
theorem ptd_chain {a b c : Expr} {op op' : CmpOp} {pos : Pos} {r r' : DR2} {Ta Tb Tc : DTE} (ho : OpD X (compareOp op) r) (ho' : OpD X (compareOp op') r') (ha : PED X a Ta) (hb : PED X b Tb) (hc : PED X c Tc)
    (hm : lastMarks [op, op'] [b, c] = false := by with_unfolding_all rfl) : PTD X (.Compare a [op, op'] [b, c] pos) (dTest (dChain r r' Ta Tb Tc)) :=
  PT.impI (pt_chain ho ho' ha hb hc hm) fun _ _ σ H Q _ h => by
    have h2 := test_lift h
    obtain ⟨η, G, P, hs, hr, t, k⟩ := h2
    exact chain_lift ⟨η, G, P, hs, hr, t, k⟩
def dNeg (T : DTE) : DTE := fun η G Q => T η G fun d G1 => match d with
  | .int i => Q (.int (-i)) G1
  | _ => False
theorem ped_neg {a : Expr} {pos : Pos} {T : DTE} (h : PED X a T) : PED X (.UnaryOp .USub a pos) (dNeg T) :=
  PE.impI (pe_un un_neg h) fun _ _ σ H Q _ ⟨η, G, P, hs, hr, t, k⟩ => ⟨η, G, _, hs, hr, t, fun d G1 v H1 p x r q => by
    cases d with
    | int i =>
      rw [VR] at q
      exact ⟨i, q, k _ G1 _ H1 p x r (by rw [VR])⟩
    | _ => exact p.elim⟩

/-! ### calls -/
/-- what is done to a list of arguments -/
abbrev DRn := List D → DHp → DVK → Prop
def liftN (K : Ml) (r : DRn) : List V → Hp → VK → Prop := fun vs H Q => ∃ ds G P, VRs K H G ds vs ∧ HR K H G ∧ r ds G P ∧ ∀ d G' v H', P d G' → Ext H G H' G' → HR K H' G' → VR K H' G' d v → Q v H'
abbrev CallD (X : Cx) (f : Value) (r : DRn) : Prop := CallR X f (liftN X.ml r)
def dCB (r : DRn) (T : DTA) : DTE := fun η G Q => T η G fun ds G1 => r ds G1 Q
theorem cb_lift {r : DRn} {T : DTA} {K : Ml} {σ : L2.St} {H : Hp} {Q : VK} (h : liftE K (dCB r T) σ H Q) : tCB (liftN K r) (liftA K T) σ H Q :=
  let ⟨η, G, P, hs, hr, t, k⟩ := h
  ⟨η, G, _, hs, hr, t, fun ds G1 vs H1 p1 x1 r1 q1 => ⟨ds, G1, P, q1, r1, p1, fun d G' v H' p x r q => k d G' v H' p (x1.trans x) r q⟩⟩
theorem ped_callB {id : String} {x : Str} {p pos : Pos} {e : Expr} {es : List Expr} {r : DRn} {T : DTA} (hc : CallD X (.builtin id) r) (hm : X.mg x = none) (hv : bootBuiltins x = some (.builtin id)) (ha : PAD X (e :: es) T) (hg : Gl X x := by rfl) (hn : x ≠ "__name__" := by decide) (hdb : (x == ("__debug__" : Str)) = false := by decide)
    (he : starEach (e :: es) X.env = (false, eval e X.env) :: starEach es X.env := by rfl) (hpl : (backTo pos (starEach es X.env)).any (·.1) = false := by rfl) : PED X (.Call (.Name x p) (e :: es) [] pos) (dCB r T) :=
  PE.impI (pe_callB hc hg hm hv ha hn hdb he hpl) fun _ _ _ _ _ _ h => cb_lift h
theorem ped_callTy {id : String} {x : Str} {p pos : Pos} {e : Expr} {es : List Expr} {r : DRn} {T : DTA} (hc : CallD X (.type id) r) (hm : X.mg x = none) (hv : bootBuiltins x = some (.type id)) (ha : PAD X (e :: es) T) (hg : Gl X x := by rfl) (hn : x ≠ "__name__" := by decide) (hdb : (x == ("__debug__" : Str)) = false := by decide)
    (he : starEach (e :: es) X.env = (false, eval e X.env) :: starEach es X.env := by rfl) (hpl : (backTo pos (starEach es X.env)).any (·.1) = false := by rfl) : PED X (.Call (.Name x p) (e :: es) [] pos) (dCB r T) :=
  PE.impI (pe_callTy hc hg hm hv ha hn hdb he hpl) fun _ _ _ _ _ _ h => cb_lift h
theorem passX : Passes CX0 X fun _ _ _ => False := fun _ _ _ _ _ _ _ h => h.elim
/-- a def of the text keeps the promise sp -/
abbrev FnD (P : Program) (w : World) (K : PySem.W.Frag) (mg : Str → Option Value) (base : Heap) (k : Nat) (f : Addr) (fd : FuncData) (ps : List Str) (sp : DRn) : Prop := FnOk P w K mg base CX0 k f fd ps fun vs H Q _ => liftN ⟨K, w⟩ sp vs H Q
theorem ped_call {k : Nat} {f : Addr} {fd : FuncData} {ps : List Str} {sp : DRn} {x : Str} {p pos : Pos} {e : Expr} {es : List Expr} {T : DTA} (F : FnD X.prog X.w X.K X.mg X.base k f fd ps sp) (hr : Room k X.A) (hm : X.mg x = some (.ref f)) (hk : PySem.W.keepIn X.K (.ref f) = true) (hb : Binds X.K fd ps [])
    (ha : PAD X (e :: es) T) (hg : Gl X x := by rfl) (hdb : (x == ("__debug__" : Str)) = false := by decide) (he : starEach (e :: es) X.env = (false, eval e X.env) :: starEach es X.env := by rfl) (hpl : (backTo pos (starEach es X.env)).any (·.1) = false := by rfl) :
    PED X (.Call (.Name x p) (e :: es) [] pos) (dCB sp T) :=
  PE.impI (pe_call F hr hg hm hk hb .nil (passX (X := X)) ha hdb he hpl) fun _ _ _ _ _ _ h => by
    obtain ⟨η, G, P, hs, hr, t, k⟩ := cb_lift h
    exact ⟨η, G, P, hs, hr, t, fun ds G' vs H' p x r q => by
      show liftN X.ml sp (vs ++ []) H' _
      rw [List.append_nil]
      exact k ds G' vs H' p x r q⟩
theorem ped_call0 {k : Nat} {f : Addr} {fd : FuncData} {ps : List Str} {sp : DRn} {x : Str} {p pos : Pos} (F : FnD X.prog X.w X.K X.mg X.base k f fd ps sp) (hr : Room k X.A) (hm : X.mg x = some (.ref f)) (hk : PySem.W.keepIn X.K (.ref f) = true) (hb : Binds X.K fd ps [])
    (hg : Gl X x := by rfl) (hdb : (x == ("__debug__" : Str)) = false := by decide) : PED X (.Call (.Name x p) [] [] pos) (dCB sp dNil) :=
  PE.impI (pe_call0 F hr hg hm hk hb .nil (passX (X := X)) hdb) fun _ _ _ _ _ _ ⟨η, G, P, hs, hr, t, k⟩ => by
    show liftN X.ml sp ([] ++ []) _ _
    exact ⟨[], G, P, .nil, hr, t, k⟩

/-! ### methods of the builtin types -/
def tyD (T : String) (d : D) (G : DHp) : Prop := match d with
  | .str _ => T = "str"
  | .ref a => (match G a with
    | some (.lst _) => T = "list"
    | some (.dK _) => T = "dict"
    | some (.dN _) => T = "dict"
    | _ => False)
  | .nd .lst _ => T = "list"
  | .nd .scr _ => T = "list"
  | .nd (.dK _) _ => T = "dict"
  | .nd (.dN _) _ => T = "dict"
  | _ => False
theorem dn_is {pins : List (Addr × Obj)} {σ : L2.St} {H : Hp} {s : Shared} {a : Addr} {ks : List NestedKey} {vs : List V} (I : Inv X pins σ H s) (h : DnAt X.ml H a ks vs) :
    s.TypeIs (.ref a) "dict" ∧ (∀ b, Value.ref a = .ref b → ∃ ob, s.heap.get? b = some ob ∧ ob.dict = none) ∧ (a == sysModules) = false := by
  obtain ⟨xs, es, ep, h1, h2, h3, h4, h5, _⟩ := DnAt.of I h
  refine ⟨h4.typeIs, fun b q => ?_, h5⟩
  cases q
  obtain ⟨ob, ho, hx, _⟩ := h2
  exact ⟨ob, ho, hx.2.1⟩
theorem tyD_is {pins : List (Addr × Obj)} {σ : L2.St} {H : Hp} {G : DHp} {s : Shared} {T : String} {d : D} {x : V} {v : Value} (I : Inv X pins σ H s) (hr : HR X.ml H G) (q : VR X.ml H G d x) (r : RelV x v) (ty : tyD T d G) :
    s.TypeIs v T ∧ ∀ a, v = .ref a → ∃ ob, s.heap.get? a = some ob ∧ ob.dict = none := by
  have doL : ∀ (a : Addr) (vs : List V), x = .ref a → SqL X.K H a vs → s.TypeIs v "list" ∧ ∀ a, v = .ref a → ∃ ob, s.heap.get? a = some ob ∧ ob.dict = none := fun a vs e hq => by
    subst e
    exact tyV_is (T := "list") I r (.inl ⟨rfl, vs, hq⟩)
  have doK : ∀ (a : Addr), x = .ref a → IsD H a → s.TypeIs v "dict" ∧ ∀ a, v = .ref a → ∃ ob, s.heap.get? a = some ob ∧ ob.dict = none := fun a e hq => by
    subst e
    cases (show v = Value.ref a from r)
    exact ⟨(isD_at I hq).1, (isD_at I hq).2.1⟩
  have doN : ∀ (a : Addr) (ks : List NestedKey) (vs : List V), x = .ref a → DnAt X.ml H a ks vs → s.TypeIs v "dict" ∧ ∀ a, v = .ref a → ∃ ob, s.heap.get? a = some ob ∧ ob.dict = none := fun a ks vs e hq => by
    subst e
    cases (show v = Value.ref a from r)
    exact ⟨(dn_is I hq).1, (dn_is I hq).2.1⟩
  cases d with
  | str z =>
    rw [VR] at q; subst q
    cases (show T = "str" from ty)
    exact tyV_is I r (show tyV X.K "str" (.str z) H from rfl)
  | ref a =>
    rw [VR] at q
    cases e : G a with
    | none =>
      have : False := by simpa [tyD, e] using ty
      exact this.elim
    | some o =>
      have u := hr a o e
      cases o with
      | lst ds =>
        have : T = "list" := by simpa [tyD, e] using ty
        subst this
        obtain ⟨vs, z, _⟩ := u
        exact doL a vs q (.inl (.inl z))
      | dK ds =>
        have : T = "dict" := by simpa [tyD, e] using ty
        subst this
        obtain ⟨ws, z, _⟩ := u
        exact doK a q (.inl ⟨ws, .inl z⟩)
      | dN ds =>
        have : T = "dict" := by simpa [tyD, e] using ty
        subst this
        obtain ⟨ws, z, _⟩ := u
        exact doN a _ ws q z
      | ins C fs =>
        have : False := by simpa [tyD, e] using ty
        exact this.elim
  | nd k ds =>
    rw [VR] at q
    obtain ⟨a, vs, e, hh, _⟩ := q
    cases k with
    | lst =>
      cases (show T = "list" from ty)
      exact doL a vs e (held_lst hh (.inl rfl))
    | scr =>
      cases (show T = "list" from ty)
      exact doL a vs e (held_lst hh (.inr rfl))
    | dK ks =>
      cases (show T = "dict" from ty)
      obtain ⟨_, o, z⟩ := hh
      exact doK a e (.inl ⟨_, .inr ⟨o, z⟩⟩)
    | dN ks =>
      cases (show T = "dict" from ty)
      exact doN a ks vs e hh.2
    | _ => exact ty.elim
  | _ => exact ty.elim
abbrev MtD (X : Cx) (id : String) (r : DRn) : Prop := CallD X (.builtin id) r
def dM0 (T : String) (r : DRn) (To : DTE) : DTE := fun η G Q => To η G fun x G1 => tyD T x G1 ∧ r [x] G1 Q
def dM (T : String) (r : DRn) (To : DTE) (Ta : DTA) : DTE := fun η G Q => To η G fun x G1 => tyD T x G1 ∧ Ta η G1 fun ds G2 => r (x :: ds) G2 Q
theorem ped_m0 {T id : String} {o : Expr} {name : Str} {apos cpos : Pos} {r : DRn} {To : DTE} (pa : PlainAttrs T) (slot : Slot T name id) (hty : typeOf (.builtin id) = pure (.type "method_descriptor")) (hm : MtD X id r) (ho : PED X o To)
    (hbase : attributeBase o name X.env (eval o X.env) = eval o X.env := by rfl) (hline : (apos.endLine == cpos.line) = true := by rfl) : PED X (.Call (.Attribute o name apos) [] [] cpos) (dM0 T r To) := by
  refine ⟨fun pins s σ H Q I ⟨η, G, P, hs, hr, t, k⟩ => ?_⟩
  refine wpAny_Call_method0_late hbase hline (thn (ho.run pins s σ H (fun v H1 => ∃ d G1, (tyD T d G1 ∧ r [d] G1 P) ∧ Ext H G H1 G1 ∧ HR X.ml H1 G1 ∧ VR X.ml H1 G1 d v) I ⟨η, G, _, hs, hr, t, fun d G1 v H1 p x r q => ⟨d, G1, p, x, r, q⟩⟩) fun v s1 ⟨x, H1, I1, r1, d, G1, ⟨ty, p⟩, x1, hr1, q1⟩ => ?_)
  obtain ⟨h1, h2⟩ := tyD_is I1 hr1 q1 r1 ty
  exact ⟨T, id, pa, slot, hty, h1, h2, Calls.callWith_builtin rfl (PySem.evalArgs_none (hm pins s1 σ H1 [x] [v] Q I1 (.cons r1 .nil) ⟨[d], G1, P, .cons q1 .nil, hr1, p, fun d G' v H' p x r q => k d G' v H' p (x1.trans x) r q⟩))⟩
theorem ped_m {T id : String} {o e : Expr} {es : List Expr} {name : Str} {apos cpos : Pos} {r : DRn} {To : DTE} {Ta : DTA} (pa : PlainAttrs T) (slot : Slot T name id) (hty : typeOf (.builtin id) = pure (.type "method_descriptor")) (hm : MtD X id r) (ho : PED X o To) (ha : PAD X (e :: es) Ta)
    (hbase : attributeBase o name X.env (eval o X.env) = eval o X.env := by rfl)
    (hfew : ((backTo cpos (starEach (e :: es) X.env)).all (fun x => !x.1) && (backToKw cpos (keywordEach [] X.env)).all (fun x => x.1.isSome)
      && decide ((e :: es).length + ([] : List Keyword).length + (if ([] : List Keyword).isEmpty then 0 else 1) < 30)) = true := by rfl)
    (hline : (apos.endLine == cpos.line) = true := by rfl) (hs : starEach (e :: es) X.env = (false, eval e X.env) :: starEach es X.env := by rfl) (hplain : (backTo cpos (starEach es X.env)).any (·.1) = false := by rfl) :
    PED X (.Call (.Attribute o name apos) (e :: es) [] cpos) (dM T r To Ta) := by
  refine ⟨fun pins s σ H Q I ⟨η, G, P, hs', hr, t, k⟩ => ?_⟩
  refine wpAny_Call_method_late hbase hfew hline rfl (thn (ho.run pins s σ H (fun v H1 => ∃ d G1, (tyD T d G1 ∧ Ta η G1 fun ds G2 => r (d :: ds) G2 P) ∧ Ext H G H1 G1 ∧ HR X.ml H1 G1 ∧ VR X.ml H1 G1 d v) I ⟨η, G, _, hs', hr, t, fun d G1 v H1 p x r q => ⟨d, G1, p, x, r, q⟩⟩) fun v s1 ⟨x, H1, I1, r1, d, G1, ⟨ty, p⟩, x1, hr1, q1⟩ => ?_)
  obtain ⟨h1, h2⟩ := tyD_is I1 hr1 q1 r1 ty
  refine ⟨T, id, pa, slot, hty, h1, h2, ?_⟩
  have hA := ha.run cpos pins s1 σ H1 (fun vs H2 => ∃ ds G2, r (d :: ds) G2 P ∧ Ext H1 G1 H2 G2 ∧ HR X.ml H2 G2 ∧ VRs X.ml H2 G2 ds vs) I1 ⟨η, G1, _, hs'.ext hr x1, hr1, p, fun ds G2 vs H2 p x r q => ⟨ds, G2, p, x, r, q⟩⟩
  rw [hs] at hA ⊢
  refine Calls.callWith_builtin (by show (false || (backTo cpos (starEach es X.env)).any (·.1)) = false; rw [hplain] <;> rfl) (Calls.evalArgs_plain ?_)
  exact thn hA fun us s2 ⟨vs, H2, I2, r2, ds, G2, p2, x2, hr2, q2⟩ => hm pins s2 σ H2 (x :: vs) (v :: us) Q I2 (.cons r1 r2) ⟨d :: ds, G2, P, .cons (q1.ext hr1 x2) q2, hr2, p2, fun d G' v H' p x r q => k d G' v H' p ((x1.trans x2).trans x) r q⟩

theorem calld_of {f : Value} {r : DRn} (h : ∀ pins s σ H G vs us ds P, Inv X pins σ H s → Vals vs us → HR X.ml H G → VRs X.ml H G ds vs → r ds G P →
    wpAny (model X.prog X.w) X.A (call f us) (fun w s' => ∃ z d H' G', Inv X pins σ H' s' ∧ RelV z w ∧ P d G' ∧ Ext H G H' G' ∧ HR X.ml H' G' ∧ VR X.ml H' G' d z) X.xe s) : CallD X f r := by
  intro pins s σ H vs us Q I r ⟨ds, G, P, q, hr, t, k⟩
  exact thn (h pins s σ H G vs us ds P I r hr q t) fun w s' ⟨z, d, H', G', I', rz, p, x', r', q'⟩ => ⟨z, H', I', rz, k d G' z H' p x' r' q'⟩
/-- what is asked of one argument -/
def d1 (g : D → DHp → DVK → Prop) : DRn := fun ds G Q => match ds with
  | [d] => g d G Q
  | _ => False
def d2 (g : D → D → DHp → DVK → Prop) : DRn := fun ds G Q => match ds with
  | [d, e] => g d e G Q
  | _ => False
def d3 (g : D → D → D → DHp → DVK → Prop) : DRn := fun ds G Q => match ds with
  | [d, e, f] => g d e f G Q
  | _ => False
theorem calld1 {f : Value} {g : D → DHp → DVK → Prop} (h : ∀ pins s σ H G x v d P, Inv X pins σ H s → RelV x v → HR X.ml H G → VR X.ml H G d x → g d G P →
    wpAny (model X.prog X.w) X.A (call f [v]) (fun w s' => ∃ z d H' G', Inv X pins σ H' s' ∧ RelV z w ∧ P d G' ∧ Ext H G H' G' ∧ HR X.ml H' G' ∧ VR X.ml H' G' d z) X.xe s) : CallD X f (d1 g) := calld_of fun pins s σ H G vs us ds P I r hr q t => by
  match ds, q, t with
  | [d], q, t =>
    obtain ⟨x, vs, rfl, q1, q2⟩ := q.uncons
    cases q2.nil_of
    obtain ⟨u, rfl, r1⟩ := r.one
    exact h pins s σ H G x u d P I r1 hr q1 t
  | [], _, t => exact t.elim
  | _ :: _ :: _, _, t => exact t.elim
theorem calld2 {f : Value} {g : D → D → DHp → DVK → Prop} (h : ∀ pins s σ H G x y v u d e P, Inv X pins σ H s → RelV x v → RelV y u → HR X.ml H G → VR X.ml H G d x → VR X.ml H G e y → g d e G P →
    wpAny (model X.prog X.w) X.A (call f [v, u]) (fun w s' => ∃ z d H' G', Inv X pins σ H' s' ∧ RelV z w ∧ P d G' ∧ Ext H G H' G' ∧ HR X.ml H' G' ∧ VR X.ml H' G' d z) X.xe s) : CallD X f (d2 g) := calld_of fun pins s σ H G vs us ds P I r hr q t => by
  match ds, q, t with
  | [d, e], q, t =>
    obtain ⟨x, vs, rfl, q1, q2⟩ := q.uncons
    obtain ⟨y, vs, rfl, q3, q4⟩ := q2.uncons
    cases q4.nil_of
    obtain ⟨u, v, rfl, r1, r2⟩ := r.two
    exact h pins s σ H G x y u v d e P I r1 r2 hr q1 q3 t
  | [], _, t => exact t.elim
  | [_], _, t => exact t.elim
  | _ :: _ :: _ :: _, _, t => exact t.elim
theorem vals3 : ∀ {x y z : V} {us : List Value}, Vals [x, y, z] us → ∃ u v w, us = [u, v, w] ∧ RelV x u ∧ RelV y v ∧ RelV z w
  | _, _, _, _, .cons r (.cons q (.cons t .nil)) => ⟨_, _, _, rfl, r, q, t⟩
theorem calld3 {f : Value} {g : D → D → D → DHp → DVK → Prop} (h : ∀ pins s σ H G x y a v u b d e l P, Inv X pins σ H s → RelV x v → RelV y u → RelV a b → HR X.ml H G → VR X.ml H G d x → VR X.ml H G e y → VR X.ml H G l a → g d e l G P →
    wpAny (model X.prog X.w) X.A (call f [v, u, b]) (fun w s' => ∃ z d H' G', Inv X pins σ H' s' ∧ RelV z w ∧ P d G' ∧ Ext H G H' G' ∧ HR X.ml H' G' ∧ VR X.ml H' G' d z) X.xe s) : CallD X f (d3 g) := calld_of fun pins s σ H G vs us ds P I r hr q t => by
  match ds, q, t with
  | [d, e, l], q, t =>
    obtain ⟨x, vs, rfl, q1, q2⟩ := q.uncons
    obtain ⟨y, vs, rfl, q3, q4⟩ := q2.uncons
    obtain ⟨a, vs, rfl, q5, q6⟩ := q4.uncons
    cases q6.nil_of
    obtain ⟨u, v, w, rfl, r1, r2, r3⟩ := vals3 r
    exact h pins s σ H G x y a u v w d e l P I r1 r2 r3 hr q1 q3 q5 t
  | [], _, t => exact t.elim
  | [_], _, t => exact t.elim
  | [_, _], _, t => exact t.elim
  | _ :: _ :: _ :: _ :: _, _, t => exact t.elim
/-! ### list.append, .pop, .extend -/
/-- the list tracked at d -/
def onL (d : D) (G : DHp) (g : Addr → List D → Prop) : Prop := match d with
  | .ref a => (match G a with
    | some (.lst ds) => g a ds
    | _ => False)
  | _ => False
theorem onL_at {d : D} {G : DHp} {g : Addr → List D → Prop} (h : onL d G g) : ∃ a ds, d = .ref a ∧ G a = some (.lst ds) ∧ g a ds := by
  cases d with
  | ref a =>
    have h : (match G a with | some (.lst ds) => g a ds | _ => False) := h
    cases e : G a with
    | none => rw [e] at h; exact h.elim
    | some o =>
      rw [e] at h
      cases o with
      | lst ds => exact ⟨a, ds, rfl, e, h⟩
      | _ => exact h.elim
  | _ => exact h.elim
theorem onL_of {a : Addr} {G : DHp} {ds : List D} {g : Addr → List D → Prop} (e : G a = some (.lst ds)) (h : g a ds) : onL (.ref a) G g := by
  show (match G a with | some (.lst ds) => g a ds | _ => False)
  rw [e]; exact h
def dAppend : DRn := d2 fun l y G Q => onL l G fun a ds => ds.length < sizeLine ∧ Q .non (up G a (.lst (ds ++ [y])))
theorem md_append : MtD X "list.append" dAppend := calld2 fun pins s σ H G x y v u d e P I rx ry hr q1 q2 t => by
  obtain ⟨a, ds, rfl, hG, hz, t⟩ := onL_at t
  rw [VR] at q1; subst q1
  obtain ⟨vs, hv, r⟩ := hr a _ hG
  have x1 : Ext H G (upd H a (.lst (vs ++ [y]))) (up G a (.lst (ds ++ [e]))) := .write hG
  exact thn (mt_append pins s σ H _ [y] v [u] (fun z H' => z = .non ∧ H' = upd H a (.lst (vs ++ [y]))) I rx (.cons ry .nil) ⟨a, vs, y, rfl, rfl, hv, by rw [r.length]; exact hz, rfl, rfl⟩) fun w s' ⟨z, H', I', rz, e1, e2⟩ => by
    subst e1 e2
    exact ⟨.non, .non, _, _, I', rz, t, x1, hr.write hG ⟨_, upd_same, (r.append (.cons q2 .nil)).ext hr x1⟩, by rw [VR]⟩
def dPop : DRn := d1 fun l G Q => onL l G fun a ds => match ds[ds.length - 1]? with
  | some y => Q y (up G a (.lst ds.dropLast))
  | none => False
theorem md_pop : MtD X "list.pop" dPop := calld1 fun pins s σ H G x v d P I rx hr q1 t => by
  obtain ⟨a, ds, rfl, hG, t⟩ := onL_at t
  rw [VR] at q1; subst q1
  obtain ⟨vs, hv, r⟩ := hr a _ hG
  cases e : ds[ds.length - 1]? with
  | none => rw [e] at t; exact t.elim
  | some y =>
    rw [e] at t
    obtain ⟨z, e2, q2⟩ := r.get e
    have x1 : Ext H G (upd H a (.lst vs.dropLast)) (up G a (.lst ds.dropLast)) := .write hG
    exact thn (mt_pop pins s σ H _ [] v [] (fun z' H' => z' = z ∧ H' = upd H a (.lst vs.dropLast)) I rx .nil ⟨a, vs, z, rfl, rfl, hv, by rw [r.length]; exact e2, rfl, rfl⟩) fun w s' ⟨z', H', I', rz, e1, e3⟩ => by
      subst e1 e3
      exact ⟨_, y, _, _, I', rz, t, x1, hr.write hG ⟨_, upd_same, r.dropLast.ext hr x1⟩, q2.ext hr x1⟩
def dPopAt : DRn := d2 fun l i G Q => onL l G fun a ds => match i with
  | .int i => (match ixN ds.length i with
    | some k => (match ds[k]? with
      | some y => Q y (up G a (.lst (ds.eraseIdx k)))
      | none => False)
    | none => False)
  | _ => False
theorem md_popAt : MtD X "list.pop" dPopAt := calld2 fun pins s σ H G x y v u d e P I rx ry hr q1 q2 t => by
  obtain ⟨a, ds, rfl, hG, t⟩ := onL_at t
  rw [VR] at q1; subst q1
  obtain ⟨vs, hv, r⟩ := hr a _ hG
  cases e with
  | int i =>
    rw [VR] at q2; subst q2
    simp only at t
    cases ek : ixN ds.length i with
    | none => rw [ek] at t; exact t.elim
    | some k =>
      rw [ek] at t
      simp only at t
      cases e : ds[k]? with
      | none => rw [e] at t; exact t.elim
      | some y =>
        rw [e] at t
        obtain ⟨z, e2, q2⟩ := r.get e
        obtain ⟨h1, h2, h3, h4⟩ := ixN_seq ek
        have hlen := (I.lstM hv).1
        have hn := line63
        have hl := r.length
        have x1 : Ext H G (upd H a (.lst (vs.eraseIdx k))) (up G a (.lst (ds.eraseIdx k))) := .write hG
        exact thn (mt_popAt pins s σ H _ [.int i] v [u] (fun z' H' => z' = z ∧ H' = upd H a (.lst (vs.eraseIdx k))) I rx (.cons ry .nil) ⟨a, vs, i, k, z, rfl, rfl, hv, by omega, by omega, by rw [hl]; exact h1, e2, rfl, rfl⟩) fun w s' ⟨z', H', I', rz, e1, e3⟩ => by
          subst e1 e3
          exact ⟨_, y, _, _, I', rz, t, x1, hr.write hG ⟨_, upd_same, (r.eraseIdx k).ext hr x1⟩, q2.ext hr x1⟩
  | _ => exact t.elim
def dExtend : DRn := d2 fun l y G Q => onL l G fun a ds => match der y G with
  | .nd .lst es => ds.length + es.length ≤ sizeLine ∧ Q .non (up G a (.lst (ds ++ es)))
  | _ => False
theorem md_extend : MtD X "list.extend" dExtend := calld2 fun pins s σ H G x y v u d e P I rx ry hr q1 q2 t => by
  obtain ⟨a, ds, rfl, hG, t⟩ := onL_at t
  rw [VR] at q1; subst q1
  obtain ⟨vs, hv, r⟩ := hr a _ hG
  split at t
  · rename_i es ed
    obtain ⟨b, ws, e1, h1, r1⟩ := der_lst hr q2 ed
    subst e1
    have x1 : Ext H G (upd H a (.lst (vs ++ ws))) (up G a (.lst (ds ++ es))) := .write hG
    exact thn (mt_extend pins s σ H _ [.ref b] v [u] (fun z H' => z = .non ∧ H' = upd H a (.lst (vs ++ ws))) I rx (.cons ry .nil) ⟨a, b, vs, ws, rfl, rfl, hv, h1, by rw [r.length, r1.length]; exact t.1, rfl, rfl⟩) fun w s' ⟨z, H', I', rz, e1, e2⟩ => by
      subst e1 e2
      exact ⟨.non, .non, _, _, I', rz, t.2, x1, hr.write hG ⟨_, upd_same, (r.append r1).ext hr x1⟩, by rw [VR]⟩
  · exact t.elim
/-! ### op= -/
def dIAdd : DR2 := fun x y G Q => match x, y with
  | .int i, .int j => Q (.int (i + j)) G
  | .str a, .str b => a.length + b.length ≤ sizeLine ∧ Q (.str (a ++ b)) G
  | .ref a, y => onL (.ref a) G fun a ds => (match der y G with
    | .nd .lst es => ds.length + es.length ≤ sizeLine ∧ Q (.ref a) (up G a (.lst (ds ++ es)))
    | _ => False)
  | _, _ => False
theorem iod_add : OpD X (inplaceOp .Add) dIAdd := opd_of fun pins s σ H G x y v u dx dy P I rx ry hr q1 q2 t => by
  unfold dIAdd at t
  split at t
  · rename_i i j
    rw [VR] at q1 q2
    subst q1 q2
    obtain ⟨t1, rfl⟩ := rx
    obtain ⟨t2, rfl⟩ := ry
    exact iadd_int (opd_fin (z := .int (i + j)) (I.tok _) ⟨_, rfl⟩ hr (by rw [VR]) t)
  · rename_i i j
    rw [VR] at q1 q2
    subst q1 q2
    exact thn (iop_add_str pins s σ H _ _ v u (fun z H' => z = .str (i ++ j) ∧ H' = H) I rx ry ⟨i, j, rfl, rfl, t.1, rfl, rfl⟩) fun w s' ⟨z, H', I', rz, e1, e2⟩ => by
      subst e1 e2
      exact opd_fin I' rz hr (by rw [VR]) t.2
  · rename_i a
    obtain ⟨a, ds, e0, hG, t⟩ := onL_at t
    cases e0
    rw [VR] at q1; subst q1
    obtain ⟨vs, hv, r⟩ := hr a _ hG
    split at t
    · rename_i es ed
      obtain ⟨b, ws, e1, h1, r1⟩ := der_lst hr q2 ed
      subst e1
      have x1 : Ext H G (upd H a (.lst (vs ++ ws))) (up G a (.lst (ds ++ es))) := .write hG
      exact thn (iop_ext pins s σ H _ _ v u (fun z H' => z = .ref a ∧ H' = upd H a (.lst (vs ++ ws))) I rx ry ⟨a, b, vs, ws, rfl, rfl, hv, h1, by rw [r.length, r1.length]; exact t.1, rfl, rfl⟩) fun w s' ⟨z, H', I', rz, e1, e2⟩ => by
        subst e1 e2
        exact ⟨.ref a, .ref a, _, _, I', rz, t.2, x1, hr.write hG ⟨_, upd_same, (r.append r1).ext hr x1⟩, by rw [VR]⟩
    · exact t.elim
  · exact t.elim
def dAug (i : Nat) (T : DTE) (r : DR2) : DTS := fun F η G => match η[i]? with
  | some (some x) => T η G fun y G1 => r x y G1 fun z G2 => F.nx (η.set i (some z)) G2
  | _ => False
theorem psd_aug {i : Nat} {x : Str} {e : Expr} {T : DTE} {op : Operator} {r : DR2} {pos' pos : Pos} (hN : X.N.Nodup) (hi : X.N[i]? = some x) (hx : Loc X.env.scope x) (he : PED X e T) (ho : OpD X (inplaceOp op) r) (hf : X.fn x = true ∨ X.env.scope.names.lookup x = some .local := by first | exact .inl rfl | exact .inr rfl | assumption) :
    PSD X (.AugAssign (.Name x pos') op e pos) (dAug i T r) :=
  PS.impI (ps_aug hN hi hx he (show PIp X op (liftR2 X.ml r) from ho) hf) fun _ _ σ H E _ ⟨η, G, F, hs, hr, t, k⟩ => by
    unfold dAug at t
    split at t
    · rename_i d e
      obtain ⟨v, q, rv⟩ := hs.2 i d e
      exact ⟨v, q, η, G, _, hs, hr, t, fun y G1 vy H1 p1 x1 r1 q1 => ⟨d, y, G1, _, r1, rv.ext hr x1, q1, p1, fun z G2 vz H2 p2 x2 r2 q2 => k.nx _ G2 _ H2 p2 (x1.trans x2) ((hs.ext hr (x1.trans x2)).set i q2) r2⟩⟩
    · exact t.elim
/-- o[i], of a list -/
def dGetL : DR2 := fun x y G Q => match der x G with
  | .nd .lst ds => atD ds y fun d => Q d G
  | _ => False
theorem get_list : OpD X getItem dGetL := opd_of fun pins s σ H G x y v u dx dy P I rx ry hr q1 q2 t => by
  unfold dGetL at t
  split at t
  · rename_i ds e
    obtain ⟨a, vs, rfl, h1, r1⟩ := der_lst hr q1 e
    cases dy with
    | int i =>
      rw [VR] at q2; subst q2
      cases ea : atI ds i with
      | none =>
        have : False := by simpa [atD, ea] using t
        exact this.elim
      | some d =>
        have t : P d G := by simpa [atD, ea] using t
        obtain ⟨z, e2, q⟩ := atI_vr r1 ea
        cases rx
        obtain ⟨tk, rfl⟩ := ry
        obtain ⟨its, r, pl, hz⟩ := I.list (.inl (.inl h1))
        obtain ⟨j, g1, g2, g3, g4, g5⟩ := atI_get e2
        obtain ⟨w, ew, rw'⟩ := r.get g2
        have hl := r.length
        have fin : ∃ z d H' G', Inv X pins σ H' s ∧ RelV z w ∧ P d G' ∧ Ext H G H' G' ∧ HR X.ml H' G' ∧ VR X.ml H' G' d z := opd_fin I rw' hr q t
        have hn := line63
        by_cases h0 : 0 ≤ i
        · have hj : i.toNat = j := by
            rw [seqIndex_of h0 g5] at g1
            exact Option.some.inj g1
          exact wpAny_getItem_list pl.isList h0 (by omega) (by rw [hj]; simpa using ew) fin
        · have hj : (i + (its.toArray.size : Int)).toNat = j := by
            rw [seqIndex_neg (by omega) g4] at g1
            rw [List.size_toArray, ← hl]
            exact Option.some.inj g1
          exact wpAny_getItem_list_neg pl.isList (by omega) (by rw [List.size_toArray] <;> omega) (by omega) (by rw [hj]; simpa using ew) fin
    | _ => exact t.elim
  · exact t.elim
def dAugS (To Ti Te : DTE) (rg rp : DR2) (rs : DSet) : DTS := fun F η G => To η G fun o G1 => Ti η G1 fun i G2 => rg o i G2 fun x G3 => Te η G3 fun y G4 => rp x y G4 fun z G5 => rs o i z G5 fun G6 => F.nx η G6
theorem psd_augS {o i e : Expr} {To Ti Te : DTE} {rg rp : DR2} {rs : DSet} {op : Operator} {tpos pos : Pos} (ho : PED X o To) (hi : PED X i Ti) (hg : OpD X getItem rg) (he : PED X e Te) (hp : OpD X (inplaceOp op) rp) (hs : PSet X (liftSet X.ml rs))
    (ha : ∀ ov iv new, augStore i ov iv new = (do holding [new, ov, iv] (setItem ov iv new); release [new, ov, iv] []; pure .next) := by intros; rfl) : PSD X (.AugAssign (.Subscript o i tpos) op e pos) (dAugS To Ti Te rg rp rs) :=
  PS.impI (ps_augS ho hi (show PGet X (liftR2 X.ml rg) from hg) he (show PIp X op (liftR2 X.ml rp) from hp) hs ha) fun _ _ σ H E _ ⟨η, G, F, hs, hr, t, k⟩ =>
    ⟨η, G, _, hs, hr, t, fun d1 G1 v1 H1 p1 x1 r1 q1 => ⟨η, G1, _, hs.ext hr x1, r1, p1, fun d2 G2 v2 H2 p2 x2 r2 q2 =>
      ⟨d1, d2, G2, _, r2, q1.ext r1 x2, q2, p2, fun d3 G3 v3 H3 p3 x3 r3 q3 => ⟨η, G3, _, hs.ext hr ((x1.trans x2).trans x3), r3, p3, fun d4 G4 v4 H4 p4 x4 r4 q4 =>
        ⟨d3, d4, G4, _, r4, q3.ext r3 x4, q4, p4, fun d5 G5 v5 H5 p5 x5 r5 q5 => ⟨d1, d2, d5, G5, _, r5, q1.ext r1 (((x2.trans x3).trans x4).trans x5), q2.ext r2 ((x3.trans x4).trans x5), q5, p5, fun G6 H6 p6 x6 r6 =>
          k.nx η G6 σ H6 p6 (((((x1.trans x2).trans x3).trans x4).trans x5).trans x6) (hs.ext hr (((((x1.trans x2).trans x3).trans x4).trans x5).trans x6)) r6⟩⟩⟩⟩⟩⟩
end
end DL
namespace DL
open PySem PySem.Spec PyProof.Rows L2

section
variable {X : Cx}
/-! ### sequences, whatever way they are held -/
def sqD (d : D) (G : DHp) : Option (List D) := match der d G with
  | .nd .lst ds => some ds
  | .nd .scr ds => some ds
  | .nd .tup ds => some ds
  | _ => none
/-- .. lists alone -/
def lsD (d : D) (G : DHp) : Option (List D) := match der d G with
  | .nd .lst ds => some ds
  | .nd .scr ds => some ds
  | _ => none
theorem lsD_at {K : Ml} {H : Hp} {G : DHp} (hr : HR K H G) {d : D} {v : V} {ds : List D} (h : VR K H G d v) (e : lsD d G = some ds) : ∃ a vs, v = .ref a ∧ SqL K.K H a vs ∧ VRs K H G ds vs := by
  unfold lsD at e
  split at e
  · rename_i es e1
    cases e
    obtain ⟨a, vs, rfl, h1, r1⟩ := der_lst hr h e1
    exact ⟨a, vs, rfl, .inl (.inl h1), r1⟩
  · rename_i es e1
    cases e
    have e1 := der_of e1 (fun _ h => nomatch h)
    subst e1
    rw [VR] at h
    obtain ⟨a, vs, rfl, h1, r1⟩ := h
    exact ⟨a, vs, rfl, held_lst h1 (.inr rfl), r1⟩
  · cases e
theorem sqD_at {K : Ml} {H : Hp} {G : DHp} (hr : HR K H G) {d : D} {v : V} {ds : List D} (h : VR K H G d v) (e : sqD d G = some ds) : ∃ a vs, v = .ref a ∧ (SqL K.K H a vs ∨ SqT K.K H a vs) ∧ VRs K H G ds vs := by
  unfold sqD at e
  split at e
  · rename_i es e1
    cases e
    obtain ⟨a, vs, rfl, h1, r1⟩ := der_lst hr h e1
    exact ⟨a, vs, rfl, .inl (.inl (.inl h1)), r1⟩
  · rename_i es e1
    cases e
    have e1 := der_of e1 (fun _ h => nomatch h)
    subst e1
    rw [VR] at h
    obtain ⟨a, vs, rfl, h1, r1⟩ := h
    exact ⟨a, vs, rfl, .inl (held_lst h1 (.inr rfl)), r1⟩
  · rename_i es e1
    cases e
    have e1 := der_of e1 (fun _ h => nomatch h)
    subst e1
    rw [VR] at h
    obtain ⟨a, vs, rfl, h1, r1⟩ := h
    exact ⟨a, vs, rfl, .inr h1, r1⟩
  · cases e
/-! ### len -/
def dLen : DRn := d1 fun d G Q => match sqD d G with
  | some ds => Q (.int ds.length) G
  | none => match dicN d G with
    | some kvs => Q (.int kvs.length) G
    | none => match dicK d G with
      | some kvs => Q (.int kvs.length) G
      | none => match d with
        | .str x => x.length ≤ sizeLine ∧ Q (.int x.length) G
        | _ => False
theorem cd_len : CallD X (.builtin "len") dLen := calld1 fun pins s σ H G x v d P I rx hr q1 t => by
  split at t
  · rename_i ds e
    obtain ⟨a, vs, rfl, hq, r⟩ := sqD_at hr q1 e
    exact thn (call_len_seq pins s σ H [.ref a] [v] (fun z H' => z = .int ds.length ∧ H' = H) I (.cons rx .nil) ⟨a, vs, rfl, hq, by rw [r.length], rfl⟩) fun w s' ⟨z, H', I', rz, e1, e2⟩ => by
      subst e1 e2
      exact opd_fin I' rz hr (by rw [VR]) t
  · split at t
    · rename_i kvs e
      obtain ⟨a, ws, rfl, dn, vr⟩ := dicN_at hr q1 e
      obtain ⟨xs, es, ep, h1, h2, h3, h4, h5, h6, h7, _⟩ := DnAt.of I dn
      cases (show v = Value.ref a from rx)
      have hl : xs.length = kvs.length := by have := congrArg List.length h6; simpa using this
      have hn := line63
      refine call_len_dictH h5 h4 (by rw [List.length_map] at h7; omega) ?_
      rw [hl]
      exact opd_fin (z := .int kvs.length) (I.tok _) ⟨_, rfl⟩ hr (by rw [VR]) t
    · split at t
      · rename_i kvs e
        obtain ⟨a, ws, rfl, rd, e1, vr⟩ := dicK_at hr q1 e
        cases (show v = Value.ref a from rx)
        have hl : ws.length = kvs.length := by have := congrArg List.length e1; simpa using this
        refine d_len I rd fun tk s' I' => ?_
        rw [hl]
        exact opd_fin (z := .int kvs.length) I' ⟨_, rfl⟩ hr (by rw [VR]) t
      · split at t
        · rename_i z _ _ _
          rw [VR] at q1; subst q1
          exact thn (call_len_str pins s σ H [.str z] [v] (fun z' H' => z' = .int z.length ∧ H' = H) I (.cons rx .nil) ⟨z, rfl, t.1, rfl, rfl⟩) fun w s' ⟨z', H', I', rz, e1, e2⟩ => by
            subst e1 e2
            exact opd_fin I' rz hr (by rw [VR]) t.2
        · exact t.elim
/-! ### ints -/
def dAbs : DRn := d1 fun d G Q => match d with
  | .int i => Q (.int (if i < 0 then -i else i)) G
  | _ => False
theorem cd_abs : CallD X (.builtin "abs") dAbs := calld1 fun pins s σ H G x v d P I rx hr q1 t => by
  cases d with
  | int i =>
    rw [VR] at q1; subst q1
    exact thn (call_abs pins s σ H [.int i] [v] (fun z' H' => z' = .int (if i < 0 then -i else i) ∧ H' = H) I (.cons rx .nil) ⟨i, rfl, rfl, rfl⟩) fun w s' ⟨z', H', I', rz, e1, e2⟩ => by
      subst e1 e2
      exact opd_fin I' rz hr (by rw [VR]) t
  | _ => exact t.elim
def dInt : DRn := d1 fun d G Q => match d with
  | .int i => Q (.int i) G
  | .bl b => Q (.int (if b then 1 else 0)) G
  | _ => False
theorem cd_int : CallD X (.type "int") dInt := calld1 fun pins s σ H G x v d P I rx hr q1 t => by
  cases d with
  | int i =>
    rw [VR] at q1; subst q1
    exact thn (call_int1 pins s σ H [.int i] [v] (fun z' H' => z' = .int i ∧ H' = H) I (.cons rx .nil) (.inl ⟨i, rfl, rfl, rfl⟩)) fun w s' ⟨z', H', I', rz, e1, e2⟩ => by
      subst e1 e2
      exact opd_fin I' rz hr (by rw [VR]) t
  | bl i =>
    rw [VR] at q1; subst q1
    exact thn (call_int1 pins s σ H [.bl i] [v] (fun z' H' => z' = .int (if i then 1 else 0) ∧ H' = H) I (.cons rx .nil) (.inr ⟨i, rfl, rfl, rfl⟩)) fun w s' ⟨z', H', I', rz, e1, e2⟩ => by
      subst e1 e2
      exact opd_fin I' rz hr (by rw [VR]) t
  | _ => exact t.elim
def dMax2 : DRn := d2 fun d e G Q => match d, e with
  | .int i, .int j => Q (.int (if j > i then j else i)) G
  | _, _ => False
def dMin2 : DRn := d2 fun d e G Q => match d, e with
  | .int i, .int j => Q (.int (if j < i then j else i)) G
  | _, _ => False
theorem cd_max2 (hc : X.calm = true) : CallD X (.builtin "max") dMax2 := calld2 fun pins s σ H G x y v u d e P I rx ry hr q1 q2 t => by
  split at t
  · rename_i i j
    rw [VR] at q1 q2; subst q1 q2
    exact thn (call_max2 hc pins s σ H [.int i, .int j] [v, u] (fun z' H' => z' = .int (if j > i then j else i) ∧ H' = H) I (.cons rx (.cons ry .nil)) ⟨i, j, rfl, rfl, rfl⟩) fun w s' ⟨z', H', I', rz, e1, e2⟩ => by
      subst e1 e2
      exact opd_fin I' rz hr (by rw [VR]) t
  · exact t.elim
theorem cd_min2 (hc : X.calm = true) : CallD X (.builtin "min") dMin2 := calld2 fun pins s σ H G x y v u d e P I rx ry hr q1 q2 t => by
  split at t
  · rename_i i j
    rw [VR] at q1 q2; subst q1 q2
    exact thn (call_min2 hc pins s σ H [.int i, .int j] [v, u] (fun z' H' => z' = .int (if j < i then j else i) ∧ H' = H) I (.cons rx (.cons ry .nil)) ⟨i, j, rfl, rfl, rfl⟩) fun w s' ⟨z', H', I', rz, e1, e2⟩ => by
      subst e1 e2
      exact opd_fin I' rz hr (by rw [VR]) t
  · exact t.elim
/-! ### over lists of ints, bools -/
def dSum : DRn := d1 fun d G Q => ∃ ns : List Int, lsD d G = some (ns.map .int) ∧ Q (.int ns.sum) G
theorem cd_sum (hc : X.calm = true) : CallD X (.builtin "sum") dSum := calld1 fun pins s σ H G x v d P I rx hr q1 ⟨ns, e, t⟩ => by
  obtain ⟨a, vs, rfl, hq, r⟩ := lsD_at hr q1 e
  have e3 := r.ints; subst e3
  exact thn (cr_sum hc pins s σ H [.ref a] [v] (fun z' H' => z' = .int ns.sum ∧ H' = H) I (.cons rx .nil) ⟨a, ns, rfl, hq, rfl, rfl⟩) fun w s' ⟨z', H', I', rz, e1, e2⟩ => by
    subst e1 e2
    exact opd_fin I' rz hr (by rw [VR]) t
def dMaxL : DRn := d1 fun d G Q => ∃ ns : List Int, lsD d G = some (ns.map .int) ∧ 0 < ns.length ∧ ∀ m ∈ ns, (∀ y ∈ ns, y ≤ m) → Q (.int m) G
def dMinL : DRn := d1 fun d G Q => ∃ ns : List Int, lsD d G = some (ns.map .int) ∧ 0 < ns.length ∧ ∀ m ∈ ns, (∀ y ∈ ns, m ≤ y) → Q (.int m) G
theorem cd_maxL (hc : X.calm = true) : CallD X (.builtin "max") dMaxL := calld1 fun pins s σ H G x v d P I rx hr q1 ⟨ns, e, hl, t⟩ => by
  obtain ⟨a, vs, rfl, hq, r⟩ := lsD_at hr q1 e
  have e3 := r.ints; subst e3
  exact thn (cr_max hc pins s σ H [.ref a] [v] (fun z' H' => (∃ m, z' = .int m ∧ m ∈ ns ∧ (∀ y ∈ ns, y ≤ m)) ∧ H' = H) I (.cons rx .nil) ⟨a, ns, rfl, hq, hl, fun m h1 h2 => ⟨⟨m, rfl, h1, h2⟩, rfl⟩⟩) fun w s' ⟨z', H', I', rz, ⟨m, e1, h1, h2⟩, e2⟩ => by
    subst e1 e2
    exact opd_fin I' rz hr (by rw [VR]) (t m h1 h2)
theorem cd_minL (hc : X.calm = true) : CallD X (.builtin "min") dMinL := calld1 fun pins s σ H G x v d P I rx hr q1 ⟨ns, e, hl, t⟩ => by
  obtain ⟨a, vs, rfl, hq, r⟩ := lsD_at hr q1 e
  have e3 := r.ints; subst e3
  exact thn (cr_min hc pins s σ H [.ref a] [v] (fun z' H' => (∃ m, z' = .int m ∧ m ∈ ns ∧ (∀ y ∈ ns, m ≤ y)) ∧ H' = H) I (.cons rx .nil) ⟨a, ns, rfl, hq, hl, fun m h1 h2 => ⟨⟨m, rfl, h1, h2⟩, rfl⟩⟩) fun w s' ⟨z', H', I', rz, ⟨m, e1, h1, h2⟩, e2⟩ => by
    subst e1 e2
    exact opd_fin I' rz hr (by rw [VR]) (t m h1 h2)
theorem VRs.bls {K : Ml} {H : Hp} {G : DHp} {bs : List Bool} {vs : List V} (h : VRs K H G (bs.map D.bl) vs) : vs = bs.map V.bl :=
  h.map_eq _ _ fun a v q => by rw [VR] at q; exact q
def dAny : DRn := d1 fun d G Q => ∃ bs : List Bool, lsD d G = some (bs.map .bl) ∧ Q (.bl (bs.any id)) G
def dAll : DRn := d1 fun d G Q => ∃ bs : List Bool, lsD d G = some (bs.map .bl) ∧ Q (.bl (bs.all id)) G
theorem cd_any (hc : X.calm = true) : CallD X (.builtin "any") dAny := calld1 fun pins s σ H G x v d P I rx hr q1 ⟨ns, e, t⟩ => by
  obtain ⟨a, vs, rfl, hq, r⟩ := lsD_at hr q1 e
  have e3 := r.bls; subst e3
  exact thn (cr_any hc pins s σ H [.ref a] [v] (fun z' H' => z' = .bl (ns.any id) ∧ H' = H) I (.cons rx .nil) ⟨a, ns, rfl, hq, rfl, rfl⟩) fun w s' ⟨z', H', I', rz, e1, e2⟩ => by
    subst e1 e2
    exact opd_fin I' rz hr (by rw [VR]) t
theorem cd_all (hc : X.calm = true) : CallD X (.builtin "all") dAll := calld1 fun pins s σ H G x v d P I rx hr q1 ⟨ns, e, t⟩ => by
  obtain ⟨a, vs, rfl, hq, r⟩ := lsD_at hr q1 e
  have e3 := r.bls; subst e3
  exact thn (cr_all hc pins s σ H [.ref a] [v] (fun z' H' => z' = .bl (ns.all id) ∧ H' = H) I (.cons rx .nil) ⟨a, ns, rfl, hq, rfl, rfl⟩) fun w s' ⟨z', H', I', rz, e1, e2⟩ => by
    subst e1 e2
    exact opd_fin I' rz hr (by rw [VR]) t
/-! ### tuple, list -/
def dTuple : DRn := d1 fun d G Q => match sqD d G with
  | some ds => Q (.nd .tup ds) G
  | none => False
theorem cd_tuple : CallD X (.type "tuple") dTuple := calld1 fun pins s σ H G x v d P I rx hr q1 t => by
  split at t
  · rename_i ds e
    obtain ⟨a, vs, rfl, hq, r⟩ := sqD_at hr q1 e
    refine thn (call_tuple_of pins s σ H [.ref a] [v] (fun z H' => Ext H G H' G ∧ HR X.ml H' G ∧ VR X.ml H' G (.nd .tup ds) z) I (.cons rx .nil) ⟨a, vs, rfl, ?_⟩) fun w s' ⟨z, H', I', rz, x', r', q'⟩ => ⟨z, _, H', G, I', rz, t, x', r', q'⟩
    rcases hq with hq | hq
    · refine .inl ⟨hq, fun l hl => ?_⟩
      have x2 : Ext H G (upd H l (.tup vs)) G := .laid hl
      refine ⟨x2, hr.laid hl, ?_⟩
      rw [VR]
      exact ⟨l, vs, rfl, .inl (.inl upd_same), r.ext hr x2⟩
    · refine .inr ⟨hq, .refl _ _, hr, ?_⟩
      rw [VR]
      exact ⟨a, vs, rfl, hq, r⟩
  · exact t.elim
/-- a new list; it is tracked -/
def dList : DRn := d1 fun d G Q => match sqD d G with
  | some ds => ∀ p, G p = none → Q (.ref p) (up G p (.lst ds))
  | none => False
theorem cd_list : CallD X (.type "list") dList := calld1 fun pins s σ H G x v d P I rx hr q1 t => by
  split at t
  · rename_i ds e
    obtain ⟨a, vs, rfl, hq, r⟩ := sqD_at hr q1 e
    refine thn (call_list_of pins s σ H [.ref a] [v] (fun z H' => ∃ p, z = .ref p ∧ H p = none ∧ H' = upd H p (.lst vs)) I (.cons rx .nil) ⟨a, vs, rfl, hq, fun l hl => ⟨l, rfl, hl, rfl⟩⟩) fun w s' ⟨z, H', I', rz, p, e1, hp, e2⟩ => ?_
    subst e1 e2
    have x2 : Ext H G (upd H p (.lst vs)) (up G p (.lst ds)) := .new hp
    exact ⟨.ref p, .ref p, _, _, I', rz, t p (hr.free hp), x2, hr.new hp ⟨vs, upd_same, r.ext hr x2⟩, by rw [VR]⟩
  · exact t.elim
/-! ### sorted, of plain data -/
theorem each_vr {K : Ml} {H : Hp} {G : DHp} : ∀ {ds : List D} {vs : List V} {us : List Value}, VRs K H G ds vs → Vals vs us → PySem.W.EachIs (fun u d => ∃ v, RelV v u ∧ VR K H G d v) us ds
  | [], _, _, h, r => by rw [h.nil_of] at r; cases r; exact .nil
  | d :: ds, _, _, h, r => by
    obtain ⟨v, vs, rfl, q, t⟩ := h.uncons
    cases r with
    | cons r1 r2 => exact .cons ⟨v, r1, q⟩ (each_vr t r2)
theorem each_back {K : Ml} {H : Hp} {G : DHp} : ∀ {us : List Value} {ds : List D}, PySem.W.EachIs (fun u d => ∃ v, RelV v u ∧ VR K H G d v) us ds → ∃ vs, Vals vs us ∧ VRs K H G ds vs
  | _, _, .nil => ⟨[], .nil, .nil⟩
  | _, _, .cons ⟨v, r, q⟩ t => by
    obtain ⟨vs, a, b⟩ := each_back t
    exact ⟨v :: vs, .cons r a, .cons q b⟩
theorem each_reads {pins : List (Addr × Obj)} {σ : L2.St} {H : Hp} {G : DHp} {s : Shared} (I : Inv X pins σ H s) : ∀ {ds : List D} {vs : List V} {us : List Value}, VRs X.ml H G ds vs → Vals vs us → plainDs ds = true → PySem.W.EachIs (fun u d => ∃ as, Reads s.heap u (py d) as) us ds
  | [], _, _, h, r, _ => by rw [h.nil_of] at r; cases r; exact .nil
  | d :: ds, _, _, h, r, p => by
    obtain ⟨v, vs, rfl, q, t⟩ := h.uncons
    rw [plainDs, Bool.and_eq_true] at p
    cases r with
    | cons r1 r2 => exact .cons (Dp.reads I _ _ _ (q.dp p.1) r1) (each_reads I t r2 p.2)
def srt (ds : List D) : List D := ds.mergeSort (PySem.W.dataLe false py)
theorem srt_len (ds : List D) : (srt ds).length = ds.length := List.length_mergeSort _
/-- a new list; it is tracked -/
def dSorted : DRn := d1 fun d G Q => match lsD d G with
  | some ds => (plainDs ds = true ∧ PySem.W.AllAlike (ds.map py) ∧ PySem.W.Sortable (ds.map py) ∧ ∀ d ∈ ds, (py d).depth ≤ 60) ∧ ∀ p, G p = none → Q (.ref p) (up G p (.lst (srt ds)))
  | none => False
theorem cd_sorted (hu : X.A.units + 64 < cLine) : CallD X (.builtin "sorted") dSorted := calld1 fun pins s σ H G x v d P I rx hr q1 t => by
  split at t
  · rename_i ds e
    obtain ⟨⟨p1, p2, p3, p4⟩, t⟩ := t
    obtain ⟨a, vs, rfl, hq, r⟩ := lsD_at hr q1 e
    cases (show v = Value.ref a from rx)
    obtain ⟨its, rv, pl, hz⟩ := I.list hq
    refine PySem.W.sorted_data (R := fun u d => ∃ v, RelV v u ∧ VR X.ml H G d v) (enc := py) (bs := ds) pl.isList (each_vr r rv) (each_reads I r rv p1) p2 p3 (by rw [← r.length]; exact hz) (fun b hb => by have := p4 b hb; omega) fun out ho eo => ?_
    obtain ⟨ws, rw', qs⟩ := each_back eo
    obtain ⟨ep, he'⟩ := PyProof.Rows.sortedAll_at s.heap its out.toArray
    have hp : H (s.heap.objs.size + 1) = none := I.hok.fresh (Nat.le_succ _)
    have x2 : Ext H G (upd H (s.heap.objs.size + 1) (.lst ws)) (up G (s.heap.objs.size + 1) (.lst (srt ds))) := .new hp
    have hlen : ws.length ≤ sizeLine := by rw [rw'.length, ho, ← r.length]; exact hz
    have I' : Inv X pins σ (upd H (s.heap.objs.size + 1) (.lst ws)) { s with heap := PyProof.Rows.sortedAll s.heap its (List.toArray out) } :=
      I.laid (t' := s.toks) (fun _ _ => PyProof.Rows.sortedAll_old) (Nat.le_succ _) ⟨hlen, out, ep, rw', he'⟩
    exact ⟨.ref _, .ref _, _, _, I', rfl, t _ (hr.free hp), x2, hr.new hp ⟨ws, upd_same, qs.ext hr x2⟩, by rw [VR]⟩
  · exact t.elim
/-! ### dict.get, dict.pop -/
def dGet2 : DRn := d3 fun x y z G Q => match dicN x G with
  | some kvs => (match y with
    | .nd .tup ks => (match D.key (.nd .tup ks) with
      | some k => k.depth ≤ 8 ∧ Q ((dval kvs k).getD z) G
      | none => False)
    | _ => False)
  | none => match dicK x G with
    | some kvs => (match y.kK with
      | some k => Q ((dval kvs k).getD z) G
      | none => False)
    | none => False
theorem md_get2 (hu : X.A.units + 64 < cLine) : MtD X "dict.get" dGet2 := calld3 fun pins s σ H G x y a v u b dx dy dz P I rx ry rz hr q1 q2 q3 t => by
  split at t
  · rename_i kvs e
    split at t
    · rename_i ks
      split at t
      · rename_i k ek
        obtain ⟨h8, t⟩ := t
        have ka := key_at q2 ek
        obtain ⟨c, ws, rfl, dn, vr⟩ := dicN_at hr q1 e
        obtain ⟨xs, es, ep, h1, h2, h3, h4, h5, h6, h7, h9, h10⟩ := DnAt.of I dn
        rw [VR] at q2
        obtain ⟨b', vs, rfl, hb, rb⟩ := q2
        cases (show v = Value.ref c from rx)
        cases (show u = Value.ref b' from ry)
        refine call_meetsIn PySem.F.slot_dict_get h4.typeIs PySem.F.entry_dict_get (PySem.F.args_dict_get_3 _ _ _) (meetsH_dict_get_default (nestedKind X.prog X.w) c b' h5 b) ⟨nk_room hu, k, xs, ⟨nested_is I ka rfl, h8⟩, h4, ?_⟩
        rcases entry_get (K := Unit) (k := k) h10 kvs H G X.ml h6 vr with ⟨e1, e2⟩ | ⟨d, w, p, e1, e2, rw', qw⟩
        · rw [e1] at t; rw [e2]
          exact opd_fin (I.tok _) rz hr q3 t
        · rw [e1] at t; rw [e2]
          exact opd_fin (I.tok _) rw' hr qw t
      · exact t.elim
    · exact t.elim
  · split at t
    · rename_i kvs e
      split at t
      · rename_i k ek
        obtain ⟨c, ws, rfl, rd, e1, vr⟩ := dicK_at hr q1 e
        cases (show v = Value.ref c from rx)
        have ex := kK_vr q2 ek
        subst ex
        refine d_get2 (by omega) I (.inl ⟨ws, k, rd, rfl, rfl⟩) ry rz fun w' s' I' rw' => ?_
        rcases dval_vr k e1 vr with ⟨e2, e3⟩ | ⟨d, w, e2, e3, qw⟩
        · rw [e2] at t; rw [e3] at rw'
          exact opd_fin I' rw' hr q3 t
        · rw [e2] at t; rw [e3] at rw'
          exact opd_fin I' rw' hr qw t
      · exact t.elim
    · exact t.elim
def dGet1 : DRn := d2 fun x y G Q => match dicN x G with
  | some kvs => (match y with
    | .nd .tup ks => (match D.key (.nd .tup ks) with
      | some k => k.depth ≤ 8 ∧ Q ((dval kvs k).getD .non) G
      | none => False)
    | _ => False)
  | none => match dicK x G with
    | some kvs => (match y.kK with
      | some k => Q ((dval kvs k).getD .non) G
      | none => False)
    | none => False
theorem md_get1 (hu : X.A.units + 64 < cLine) : MtD X "dict.get" dGet1 := calld2 fun pins s σ H G x y v u dx dy P I rx ry hr q1 q2 t => by
  split at t
  · rename_i kvs e
    split at t
    · rename_i ks
      split at t
      · rename_i k ek
        obtain ⟨h8, t⟩ := t
        have ka := key_at q2 ek
        obtain ⟨c, ws, rfl, dn, vr⟩ := dicN_at hr q1 e
        obtain ⟨xs, es, ep, h1, h2, h3, h4, h5, h6, h7, h9, h10⟩ := DnAt.of I dn
        rw [VR] at q2
        obtain ⟨b', vs, rfl, hb, rb⟩ := q2
        cases (show v = Value.ref c from rx)
        cases (show u = Value.ref b' from ry)
        refine call_meetsIn PySem.F.slot_dict_get h4.typeIs PySem.F.entry_dict_get (PySem.F.args_dict_get_2 _ _) (meetsH_dict_get (nestedKind X.prog X.w) c b' h5) ⟨nk_room hu, k, xs, ⟨nested_is I ka rfl, h8⟩, h4, ?_⟩
        rcases entry_get (K := Unit) (k := k) h10 kvs H G X.ml h6 vr with ⟨e1, e2⟩ | ⟨d, w, p, e1, e2, rw', qw⟩
        · rw [e1] at t; rw [e2]
          exact opd_fin (z := .non) (I.tok _) rfl hr (by show VR _ _ _ .non .non; rw [VR]) t
        · rw [e1] at t; rw [e2]
          exact opd_fin (I.tok _) rw' hr qw t
      · exact t.elim
    · exact t.elim
  · split at t
    · rename_i kvs e
      split at t
      · rename_i k ek
        obtain ⟨c, ws, rfl, rd, e1, vr⟩ := dicK_at hr q1 e
        cases (show v = Value.ref c from rx)
        have ex := kK_vr q2 ek
        subst ex
        refine d_get1 (by omega) I (.inl ⟨ws, k, rd, rfl, rfl⟩) ry fun w' s' I' rw' => ?_
        rcases dval_vr k e1 vr with ⟨e2, e3⟩ | ⟨d, w, e2, e3, qw⟩
        · rw [e2] at t; rw [e3] at rw'
          exact opd_fin I' rw' hr (by show VR _ _ _ .non .non; rw [VR]) t
        · rw [e2] at t; rw [e3] at rw'
          exact opd_fin I' rw' hr qw t
      · exact t.elim
    · exact t.elim
/-! ### an empty dict -/
def dNewN : DTE := fun _ G Q => ∀ p, G p = none → Q (.ref p) (up G p (.dN []))
def dNewK : DTE := fun _ G Q => ∀ p, G p = none → Q (.ref p) (up G p (.dK []))
theorem ped_newK {pos : Pos} : PED X (.Dict [] [] pos) dNewK := PE.impI pe_dnewK fun _ _ σ H Q _ ⟨η, G, P, hs, hr, t, k⟩ => fun p hp =>
  k (.ref p) _ (.ref p) _ (t p (hr.free hp)) (.new hp) (hr.new hp ⟨[], upd_same, rfl, .nil⟩) (by rw [VR])
theorem raw_empty {pins : List (Addr × Obj)} {σ : L2.St} {H : Hp} {s : Shared} (I : Inv X pins σ H s) : Inv X pins σ (upd H s.heap.objs.size (rawO s.heap.objs.size #[] 0)) { s with heap := s.heap.push { cls := .type "dict", data := .dict #[] } } := by
  have e := Heap.get?_push_size s.heap (o := { cls := .type "dict", data := .dict #[] }) rfl
  have hr : (s.heap.push { cls := .type "dict", data := .dict #[] }).DictRaw s.heap.objs.size #[] 0 := ⟨_, e, ⟨rfl, rfl, rfl⟩, rfl⟩
  exact I.laid (t' := s.toks) (fun _ _ q => Heap.get?_push_of_some _ q) (Nat.le_refl _) ⟨hr, ⟨_, e⟩, fun h1 h2 φ k => φ.at k⟩
theorem notSys {pins : List (Addr × Obj)} {σ : L2.St} {H : Hp} {s : Shared} (I : Inv X pins σ H s) : (s.heap.objs.size == sysModules) = false :=
  beq_eq_false_iff_ne.mpr (Ne.symm (Nat.ne_of_lt I.big))
theorem dnAt_empty {K : Ml} {H : Hp} {a : Addr} (h : H a = some (rawO a #[] 0)) (hs : (a == sysModules) = false) : DnAt K H a [] [] :=
  ⟨[], #[], 0, h, hs, rfl, rfl, List.nodup_nil, Nat.zero_le _, (fun _ hx => nomatch hx), .nil⟩
theorem ped_newN {pos : Pos} : PED X (.Dict [] [] pos) dNewN := ⟨fun pins s σ H Q I ⟨η, G, P, hs, hr, t, k⟩ => by
  have hp : H s.heap.objs.size = none := I.hok.fresh (Nat.le_refl _)
  exact wpAny_Dict_empty ⟨.ref s.heap.objs.size, _, raw_empty I, rfl, k _ _ _ _ (t _ (hr.free hp)) (.new hp) (hr.new hp ⟨[], dnAt_empty upd_same (notSys I), .nil⟩) (by rw [VR])⟩⟩
end
end DL
namespace DL
open PySem PySem.Spec PyProof.Rows L2

/-! ### a dict that stays, walked -/
/-- at d a dict with just the entries es stays -/
def RawAt (H : Hp) (d : Addr) (es : Array DictEntry) (ep : Nat) : Prop := (H d = some (rawO d es ep) ∨ ∃ o kvs, H d = some (.frz o (.dK kvs)) ∧ o.ExactDict ∧ o.data = .dict es ep) ∧ (d == sysModules) = false
section
variable {X : Cx} {pins : List (Addr × Obj)} {σ : L2.St} {H : Hp} {s : Shared} {d : Addr} {es : Array DictEntry} {ep : Nat}
theorem RawAt.raw (h : RawAt H d es ep) (I : Inv X pins σ H s) : s.heap.DictRaw d es ep := by
  rcases h.1 with h | ⟨o, kvs, h, hx, hd⟩
  · obtain ⟨φ, _, _⟩ := (show ObjOk X.prog X.w H s.heap d (rawO d es ep) from I.hok d _ h)
    exact φ
  · obtain ⟨hg, _⟩ := I.hok d _ h
    exact ⟨o, hg, hx, hd⟩
end
/-- the items of a walk over kv -/
def EntV (es : Array DictEntry) (kv : List (V × V)) : Prop := Paired (fun (p : V × V) (e : DictEntry) => RelV p.1 e.key ∧ RelV p.2 e.val) kv es.toList
theorem EntV.size {es : Array DictEntry} {kv : List (V × V)} (h : EntV es kv) : kv.length = es.size := by
  have := Paired.length h
  rw [Array.length_toList] at this
  exact this
theorem EntV.at {es : Array DictEntry} {kv : List (V × V)} (h : EntV es kv) {i : Nat} {p : V × V} (e : kv[i]? = some p) (hi : i < es.size) : RelV p.1 es[i].key ∧ RelV p.2 es[i].val := by
  obtain ⟨b, hb, r⟩ := paired_get h e
  rw [Array.getElem?_toList, Array.getElem?_eq_getElem hi] at hb
  cases hb
  exact r
def Itw (d : Addr) (es : Array DictEntry) (ep : Nat) (kv : List (V × V)) : It :=
  ⟨fun i H => RawAt H d es ep ∧ i < kv.length, fun i H x H' => ∃ T k v, kv[i]? = some (k, v) ∧ x = .ref T ∧ H T = none ∧ H' = upd H T (.tup [k, v]), fun i H => RawAt H d es ep ∧ kv.length ≤ i⟩
def Itwk (d : Addr) (es : Array DictEntry) (ep : Nat) (kv : List (V × V)) : It :=
  ⟨fun i H => RawAt H d es ep ∧ i < kv.length, fun i H x H' => H' = H ∧ ∃ v, kv[i]? = some (x, v), fun i H => RawAt H d es ep ∧ kv.length ≤ i⟩
def Itwv (d : Addr) (es : Array DictEntry) (ep : Nat) (kv : List (V × V)) : It :=
  ⟨fun i H => RawAt H d es ep ∧ i < kv.length, fun i H x H' => H' = H ∧ ∃ k, kv[i]? = some (k, x), fun i H => RawAt H d es ep ∧ kv.length ≤ i⟩
section
variable {P : Program} {w : World} {K : PySem.W.Frag} {tg : Expr} {d : Addr} {es : Array DictEntry} {ep : Nat} {kv : List (V × V)}
theorem turn_itw {elts : List Expr} {kk : Nat} {tpos : Pos} (it : Addr) (hv : EntV es kv) : Turn P w K (.Tuple elts kk tpos) (Itw d es ep kv) [it] it (fun n_i g_ => ∃ k_o v_o, IsItemIter g_ it d n_i es.size ep k_o v_o) where
  mem := by simp
  obj := fun n_i g_ sit c_ hcb => by
    have eq_ : c_ = it := by simpa using hcb
    subst eq_
    obtain ⟨k_o, v_o, eq_⟩ := sit
    exact ⟨_, eq_, fun vv zz => nomatch zz⟩
  keep := fun n_i g_ g' sit kp => let ⟨k_o, v_o, eq_⟩ := sit; ⟨k_o, v_o, kp it (by simp) _ eq_⟩
  item := by
    intro Y eP ew eK cal n_i pn s_a τ M Ex Iv young sit can
    subst eP ew eK
    obtain ⟨raw_, lt_⟩ := can
    have dr := raw_.raw Iv
    obtain ⟨k_o, v_o, hit_⟩ := sit
    have low : it < s_a.heap.objs.size := Heap.lt_size hit_
    have lt' : n_i < es.size := by rw [← hv.size]; exact lt_
    have at_i : kv[n_i]? = some kv[n_i] := List.getElem?_eq_getElem lt_
    obtain ⟨r1, r2⟩ := hv.at at_i lt'
    refine wpAny_pyNext_items_item_raw hit_ dr lt' fun g' out_ hT_ hz_ kept_ => ?_
    refine ⟨_, rfl, wpAny_letOwnedTupleGo_items (s := { s_a with heap := g' }) out_ fun g'' hit' same_ => ?_⟩
    have hT3 : g''.get? s_a.heap.objs.size = some { cls := .type "tuple", data := .seq #[es[n_i].key, es[n_i].val] } := (same_.2 _ (Nat.ne_of_gt low)).trans hT_
    have new_ : ObjOk Y.prog Y.w (upd M s_a.heap.objs.size (.tup [kv[n_i].1, kv[n_i].2])) g'' s_a.heap.objs.size (.tup [kv[n_i].1, kv[n_i].2]) :=
      ⟨by show 2 ≤ sizeLine; decide, [es[n_i].key, es[n_i].val], .cons r1 (.cons r2 .nil), ⟨_, hT3, rfl, _, rfl⟩⟩
    have Iw : Inv Y pn τ (upd M s_a.heap.objs.size (.tup [kv[n_i].1, kv[n_i].2])) { s_a with heap := g'' } :=
      Iv.turnedNew (t' := s_a.toks) (ch := [it]) (fun c_ o_b hcb eq_ => (same_.2 c_ (by simpa using hcb)).trans (kept_ c_ o_b (by simpa using hcb) eq_)) young (Nat.le_refl _) new_
    refine ⟨.ref s_a.heap.objs.size, _, Iw, rfl, ⟨_, kv[n_i].1, kv[n_i].2, at_i, rfl, Iv.hok.fresh (Nat.le_refl _), rfl⟩, ⟨es[n_i].key, es[n_i].val, hit'⟩, fun c_ hcb => ?_⟩
    have eq_ : c_ = it := by simpa using hcb
    rw [eq_, upd_ne (Nat.ne_of_lt low)]
    exact (young it (by simp)).1
  done := by
    intro Y eP ew eK cal n_i pn s_a τ M Ex Iv young sit can
    subst eP ew eK
    obtain ⟨raw_, lt_⟩ := can
    obtain ⟨p0, p1, p2, p3, p4, p5⟩ := young it (by simp)
    have dr := raw_.raw Iv
    obtain ⟨k_o, v_o, hit_⟩ := sit
    exact wpAny_pyNext_items_end_raw (Iv.ok.hd cal) hit_ dr (by rw [← hv.size]; exact lt_) fun g' but_ => ⟨rfl, Iv.turned (t' := s_a.toks) (fun c_ o_b hcb eq_ => but_ c_ o_b hcb eq_) p0 p1 p3 p4 p5⟩
  self := fun A_ n_i s_a Q_ Ex sit g_ => let ⟨_, _, eq_⟩ := sit; PySem.W.kcp_self eq_ g_
theorem turn_itwk (it : Addr) (hv : EntV es kv) : Turn P w K tg (Itwk d es ep kv) [it] it (fun n_i g_ => g_.IsKeyIter it d n_i es.size ep) where
  mem := by simp
  obj := fun n_i g_ sit c_ hcb => by
    have eq_ : c_ = it := by simpa using hcb
    subst eq_
    obtain ⟨o_i, eq_, cl_, dt_⟩ := sit
    exact ⟨o_i, eq_, fun vv zz => by rw [dt_] at zz; cases zz⟩
  keep := fun n_i g_ g' sit kp => sit.at fun o_i eq_ => kp it (by simp) o_i eq_
  item := by
    intro Y eP ew eK cal n_i pn s_a τ M Ex Iv young sit can
    subst eP ew eK
    obtain ⟨raw_, lt_⟩ := can
    obtain ⟨p0, p1, p2, p3, p4, p5⟩ := young it (by simp)
    have dr := raw_.raw Iv
    have lt' : n_i < es.size := by rw [← hv.size]; exact lt_
    have at_i : kv[n_i]? = some kv[n_i] := List.getElem?_eq_getElem lt_
    obtain ⟨r1, r2⟩ := hv.at at_i lt'
    refine wpAny_pyNext_keys_item_raw sit dr lt' fun g' sit' same_ => ?_
    have Iw : Inv Y pn τ M { s_a with heap := g' } := Iv.turned (t' := s_a.toks) (fun c_ o_b hcb eq_ => (same_.2 c_ hcb).trans eq_) p0 p1 p3 p4 p5
    obtain ⟨o_i, eq_, cl_, dt_⟩ := id sit'
    exact ⟨es[n_i].key, rfl, go_of (s := { s_a with heap := g' }) eq_ cl_ dt_ (by decide) ⟨kv[n_i].1, M, Iw, r1, ⟨rfl, _, at_i⟩, sit', fun c_ hcb => (young c_ hcb).1⟩⟩
  done := by
    intro Y eP ew eK cal n_i pn s_a τ M Ex Iv young sit can
    subst eP ew eK
    obtain ⟨raw_, lt_⟩ := can
    obtain ⟨p0, p1, p2, p3, p4, p5⟩ := young it (by simp)
    exact wpAny_pyNext_keys_end_raw (Iv.ok.hd cal) sit (raw_.raw Iv) (by rw [← hv.size]; exact lt_) fun g' but_ => ⟨rfl, Iv.turned (t' := s_a.toks) (fun c_ o_b hcb eq_ => but_ c_ o_b hcb eq_) p0 p1 p3 p4 p5⟩
  self := fun A_ n_i s_a Q_ Ex sit g_ => wpAny_pyIter_keyiter sit g_
theorem turn_itwv (it : Addr) (hv : EntV es kv) : Turn P w K tg (Itwv d es ep kv) [it] it (fun n_i g_ => g_.IsValIter it d n_i es.size ep) where
  mem := by simp
  obj := fun n_i g_ sit c_ hcb => by
    have eq_ : c_ = it := by simpa using hcb
    subst eq_
    obtain ⟨o_i, eq_, cl_, dt_⟩ := sit
    exact ⟨o_i, eq_, fun vv zz => by rw [dt_] at zz; cases zz⟩
  keep := fun n_i g_ g' sit kp => sit.at fun o_i eq_ => kp it (by simp) o_i eq_
  item := by
    intro Y eP ew eK cal n_i pn s_a τ M Ex Iv young sit can
    subst eP ew eK
    obtain ⟨raw_, lt_⟩ := can
    obtain ⟨p0, p1, p2, p3, p4, p5⟩ := young it (by simp)
    have dr := raw_.raw Iv
    have lt' : n_i < es.size := by rw [← hv.size]; exact lt_
    have at_i : kv[n_i]? = some kv[n_i] := List.getElem?_eq_getElem lt_
    obtain ⟨r1, r2⟩ := hv.at at_i lt'
    refine wpAny_pyNext_values_item_raw sit dr lt' fun g' sit' same_ => ?_
    have Iw : Inv Y pn τ M { s_a with heap := g' } := Iv.turned (t' := s_a.toks) (fun c_ o_b hcb eq_ => (same_.2 c_ hcb).trans eq_) p0 p1 p3 p4 p5
    obtain ⟨o_i, eq_, cl_, dt_⟩ := id sit'
    exact ⟨es[n_i].val, rfl, go_of (s := { s_a with heap := g' }) eq_ cl_ dt_ (by decide) ⟨kv[n_i].2, M, Iw, r2, ⟨rfl, _, at_i⟩, sit', fun c_ hcb => (young c_ hcb).1⟩⟩
  done := by
    intro Y eP ew eK cal n_i pn s_a τ M Ex Iv young sit can
    subst eP ew eK
    obtain ⟨raw_, lt_⟩ := can
    obtain ⟨p0, p1, p2, p3, p4, p5⟩ := young it (by simp)
    exact wpAny_pyNext_values_end_raw (Iv.ok.hd cal) sit (raw_.raw Iv) (by rw [← hv.size]; exact lt_) fun g' but_ => ⟨rfl, Iv.turned (t' := s_a.toks) (fun c_ o_b hcb eq_ => but_ c_ o_b hcb eq_) p0 p1 p3 p4 p5⟩
  self := fun A_ n_i s_a Q_ Ex sit g_ => wpAny_pyIter_valiter sit g_
end

/-! ### at the trees -/
/-- a key of either kind of dict, as a tree -/
def kD : Key → D
  | .inl i => .int i
  | .inr x => .str x
/-- keys and values of a dict that is changed no more -/
def dicP : D → Option (List (D × D))
  | .nd (.dN ks) ds => some ((ks.map nkD).zip ds)
  | .nd (.dK ks) ds => some ((ks.map kD).zip ds)
  | _ => none
theorem kD_vr {K : Ml} {H : Hp} {G : DHp} (k : Key) : VR K H G (kD k) (kV k) := by
  cases k with
  | inl i => show VR K H G (.int i) (.int i); rw [VR]
  | inr i => show VR K H G (.str i) (.str i); rw [VR]
/-- the walk's own pairs -/
def PairsR (K : Ml) (H : Hp) (G : DHp) (ps : List (D × D)) (kv : List (V × V)) : Prop := VRs K H G (ps.map (·.1)) (kv.map (·.1)) ∧ VRs K H G (ps.map (·.2)) (kv.map (·.2))
theorem kVs_vr {K : Ml} {H : Hp} {G : DHp} : ∀ ks : List Key, VRs K H G (ks.map kD) (ks.map kV)
  | [] => .nil
  | k :: ks => .cons (kD_vr k) (kVs_vr ks)
theorem mix_rel {P : Program} {w : World} {k : Key} {u : Value} (h : (mixKind P w).is k u = true) : RelV (kV k) u := relV_key (show keyIs k u = true from h)
section
variable {X : Cx}
/-- what is known of a dict that is changed no more -/
theorem dicP_at {pins : List (Addr × Obj)} {σ : L2.St} {H : Hp} {G : DHp} {s : Shared} {d : D} {v : V} {ps : List (D × D)} (I : Inv X pins σ H s) (hr : HR X.ml H G) (q : VR X.ml H G d v) (e : dicP d = some ps) :
    ∃ a es ep kv, v = .ref a ∧ EntV es kv ∧ PairsR X.ml H G ps kv ∧ ps.length = kv.length ∧ RawAt H a es ep ∧ ∀ H' G', Ext H G H' G' → RawAt H' a es ep := by
  cases d with
  | nd k ds =>
    cases k with
    | dN ks =>
      have e : some ((ks.map nkD).zip ds) = some ps := e
      cases e
      rw [VR] at q
      obtain ⟨a, vs, rfl, ⟨hn, dn⟩, r⟩ := q
      obtain ⟨xs, es, ep, h1, h2, h3, h4, h5, h6, h7, h8, h9⟩ := DnAt.of I dn
      have hl : ks.length = vs.length := by rw [← h6, List.length_map, h9.length, List.length_map]
      have hld : ks.length = ds.length := by rw [hl, r.length]
      have ent : ∀ (zs : List (NestedKey × Addr × Value)) (ws : List V), Vals ws (zs.map (·.2.2)) → Paired (fun (p : V × V) (e : DictEntry) => RelV p.1 e.key ∧ RelV p.2 e.val) ((zs.map fun z => V.ref z.2.1).zip ws) (zs.map (entryOfKey (nestedKind X.prog X.w))) := by
        intro zs
        induction zs with
        | nil => intro ws h; cases h; exact .nil
        | cons z zs ih =>
          intro ws h
          cases h with
          | cons r1 r2 => exact .cons ⟨rfl, r1⟩ (ih _ r2)
      refine ⟨a, es, ep, (xs.map fun z => V.ref z.2.1).zip vs, rfl, ?_, ⟨?_, ?_⟩, ?_, ⟨.inl h1, h5⟩, fun H' G' x => ⟨.inl (x.ex _ _ h1 hn).1, h5⟩⟩
      · unfold EntV
        rw [h3]
        exact ent xs vs h9
      · rw [fst_zip (by rw [List.length_map]; exact hld), fst_zip (by rw [List.length_map, ← hl, ← h6, List.length_map]), ← h6, List.map_map]
        have : ∀ zs : List (NestedKey × Addr × Value), (∀ x ∈ zs, KeyAt X.ml H x.1 (.ref x.2.1) ∧ x.1.depth ≤ 8) → VRs X.ml H G (zs.map (nkD ∘ (·.1))) (zs.map fun z => V.ref z.2.1) := by
          intro zs
          induction zs with
          | nil => intro _; exact .nil
          | cons z zs ih => intro h; exact .cons (nkD_vr (h z (by simp)).1) (ih fun x hx => h x (by simp [hx]))
        exact this xs h8
      · rw [List.map_snd_zip (by rw [List.length_map, hld] <;> exact Nat.le_refl _), List.map_snd_zip (by rw [List.length_map, ← hl, ← h6, List.length_map] <;> exact Nat.le_refl _)]
        exact r
      · rw [List.length_zip, List.length_zip, List.length_map, List.length_map, ← hld, ← hl, ← h6, List.length_map]
    | dK ks =>
      have e : some ((ks.map kD).zip ds) = some ps := e
      cases e
      rw [VR] at q
      obtain ⟨a, vs, rfl, ⟨hl, o, ho⟩, r⟩ := q
      obtain ⟨hs, hgd, hx, es, ep, ws, hdt, hsz, kv, hm⟩ := I.frzK ho
      have hld : ks.length = ds.length := by rw [hl, r.length]
      obtain ⟨o', es', ho', hx', hdt', _, pr, _⟩ := hm
      rw [hgd] at ho'; cases ho'
      rw [hdt] at hdt'; cases hdt'
      have ent : ∀ (qs : List (Key × V)) (us : List (Key × Value)) (en : List DictEntry), KV qs us → Pairs (mixKind X.prog X.w) en us → Paired (fun (p : V × V) (e : DictEntry) => RelV p.1 e.key ∧ RelV p.2 e.val) (qs.map fun p => (kV p.1, p.2)) en := by
        intro qs
        induction qs with
        | nil => intro us en h1 h2; cases h1; cases h2; exact .nil
        | cons z zs ih =>
          intro us en h1 h2
          cases h1 with
          | cons r1 r2 =>
            cases h2 with
            | cons p1 p2 p3 => exact .cons ⟨mix_rel (by rw [r1.1]; exact p1), by rw [p2]; exact r1.2⟩ (ih _ _ r2 p3)
      refine ⟨a, es, ep, (ks.zip vs).map fun p => (kV p.1, p.2), rfl, ?_, ⟨?_, ?_⟩, ?_, ⟨.inr ⟨o, _, ho, hx, hdt⟩, hs⟩, fun H' G' x => ⟨.inr ⟨o, _, (x.ex _ _ ho (hr.frz ho)).1, hx, hdt⟩, hs⟩⟩
      · unfold EntV
        exact ent _ _ _ kv pr
      · rw [fst_zip (by rw [List.length_map]; exact hld), List.map_map]
        have : ((ks.zip vs).map ((fun p : V × V => p.1) ∘ fun p : Key × V => (kV p.1, p.2))) = ks.map kV := by
          rw [show ((fun p : V × V => p.1) ∘ fun p : Key × V => (kV p.1, p.2)) = kV ∘ (·.1) from rfl, ← List.map_map, fst_zip hl]
        rw [this]
        exact kVs_vr ks
      · rw [List.map_snd_zip (by rw [List.length_map, hld] <;> exact Nat.le_refl _), List.map_map]
        rw [show ((fun p : V × V => p.2) ∘ fun p : Key × V => (kV p.1, p.2)) = (·.2) from rfl, List.map_snd_zip (by rw [hl] <;> exact Nat.le_refl _)]
        exact r
      · rw [List.length_zip, List.length_map, List.length_map, List.length_zip, ← hld, ← hl]
    | _ => cases e
  | _ => cases e
theorem PairsR.get {K : Ml} {H : Hp} {G : DHp} {ps : List (D × D)} {kv : List (V × V)} (h : PairsR K H G ps kv) (hl : ps.length = kv.length) {i : Nat} {p : D × D} (e : ps[i]? = some p) : ∃ k v, kv[i]? = some (k, v) ∧ VR K H G p.1 k ∧ VR K H G p.2 v := by
  have hi : i < kv.length := by rw [← hl]; exact (List.getElem?_eq_some_iff.mp e).1
  obtain ⟨k, e1, q1⟩ := h.1.get (i := i) (d := p.1) (by rw [List.getElem?_map, e]; rfl)
  obtain ⟨v, e2, q2⟩ := h.2.get (i := i) (d := p.2) (by rw [List.getElem?_map, e]; rfl)
  rw [List.getElem?_map, List.getElem?_eq_getElem hi] at e1 e2
  cases e1; cases e2
  exact ⟨_, _, List.getElem?_eq_getElem hi, q1, q2⟩
theorem PairsR.ext {K : Ml} {H H' : Hp} {G G' : DHp} {ps : List (D × D)} {kv : List (V × V)} (h : PairsR K H G ps kv) (hr : HR K H G) (x : Ext H G H' G') : PairsR K H' G' ps kv := ⟨h.1.ext hr x, h.2.ext hr x⟩
theorem Itw.itD {K : Ml} {H1 : Hp} {G1 : DHp} {d : Addr} {es : Array DictEntry} {ep : Nat} {kv : List (V × V)} {ps : List (D × D)} (hr1 : HR K H1 G1) (hp : PairsR K H1 G1 ps kv) (hl : ps.length = kv.length) (hra : ∀ H' G', Ext H1 G1 H' G' → RawAt H' d es ep) :
    ItD K H1 G1 (Itw d es ep kv) (ps.map fun p => .nd .tup [p.1, p.2]) always := by
  intro i H G x r o
  refine ⟨fun t e => ?_, fun l => ⟨hra _ _ x, by rw [← hl]; simpa using l⟩⟩
  rw [List.getElem?_map] at e
  cases ep' : ps[i]? with
  | none => rw [ep'] at e; cases e
  | some p =>
    rw [ep'] at e; cases e
    obtain ⟨k, v, e1, q1, q2⟩ := (hp.ext hr1 x).get hl ep'
    refine ⟨⟨hra _ _ x, by rw [← hl]; exact (List.getElem?_eq_some_iff.mp ep').1⟩, fun y H' ⟨T, k', v', e2, ey, hT, eH⟩ => ?_⟩
    rw [e1] at e2; cases e2
    subst ey eH
    have x2 : Ext H G (upd H T (.tup [k, v])) G := .laid hT
    refine ⟨x2, r.laid hT, ?_⟩
    rw [VR]
    exact ⟨T, _, rfl, .inl (.inl upd_same), .cons (q1.ext r x2) (.cons (q2.ext r x2) .nil)⟩
theorem Itwk.itD {K : Ml} {H1 : Hp} {G1 : DHp} {d : Addr} {es : Array DictEntry} {ep : Nat} {kv : List (V × V)} {ps : List (D × D)} (hr1 : HR K H1 G1) (hp : PairsR K H1 G1 ps kv) (hl : ps.length = kv.length) (hra : ∀ H' G', Ext H1 G1 H' G' → RawAt H' d es ep) :
    ItD K H1 G1 (Itwk d es ep kv) (ps.map (·.1)) always := by
  intro i H G x r o
  refine ⟨fun t e => ?_, fun l => ⟨hra _ _ x, by rw [← hl]; simpa using l⟩⟩
  rw [List.getElem?_map] at e
  cases ep' : ps[i]? with
  | none => rw [ep'] at e; cases e
  | some p =>
    rw [ep'] at e; cases e
    obtain ⟨k, v, e1, q1, q2⟩ := (hp.ext hr1 x).get hl ep'
    refine ⟨⟨hra _ _ x, by rw [← hl]; exact (List.getElem?_eq_some_iff.mp ep').1⟩, fun y H' ⟨eH, v', e2⟩ => ?_⟩
    rw [e1] at e2; cases e2
    subst eH
    exact ⟨.refl _ _, r, q1⟩
theorem Itwv.itD {K : Ml} {H1 : Hp} {G1 : DHp} {d : Addr} {es : Array DictEntry} {ep : Nat} {kv : List (V × V)} {ps : List (D × D)} (hr1 : HR K H1 G1) (hp : PairsR K H1 G1 ps kv) (hl : ps.length = kv.length) (hra : ∀ H' G', Ext H1 G1 H' G' → RawAt H' d es ep) :
    ItD K H1 G1 (Itwv d es ep kv) (ps.map (·.2)) always := by
  intro i H G x r o
  refine ⟨fun t e => ?_, fun l => ⟨hra _ _ x, by rw [← hl]; simpa using l⟩⟩
  rw [List.getElem?_map] at e
  cases ep' : ps[i]? with
  | none => rw [ep'] at e; cases e
  | some p =>
    rw [ep'] at e; cases e
    obtain ⟨k, v, e1, q1, q2⟩ := (hp.ext hr1 x).get hl ep'
    refine ⟨⟨hra _ _ x, by rw [← hl]; exact (List.getElem?_eq_some_iff.mp ep').1⟩, fun y H' ⟨eH, v', e2⟩ => ?_⟩
    rw [e1] at e2; cases e2
    subst eH
    exact ⟨.refl _ _, r, q2⟩
theorem dicP_ty {d : D} {ps : List (D × D)} (e : dicP d = some ps) (G : DHp) : tyD "dict" d G := by
  cases d with
  | nd k ds =>
    cases k with
    | dN ks => exact rfl
    | dK ks => exact rfl
    | _ => cases e
  | _ => cases e
def diItems (T : DTE) : DTI := fun η G R => T η G fun d G1 => match dicP d with
  | some ps => R (ps.map fun p => .nd .tup [p.1, p.2]) always G1
  | none => False
def diValues (T : DTE) : DTI := fun η G R => T η G fun d G1 => match dicP d with
  | some ps => R (ps.map (·.2)) always G1
  | none => False
def diKeys (T : DTE) : DTI := fun η G R => T η G fun d G1 => match dicP d with
  | some ps => R (ps.map (·.1)) always G1
  | none => False
theorem pid_items {e : Expr} {T : DTE} {elts : List Expr} {kk : Nat} {tpos apos cpos : Pos} (he : PED X e T) (hbase : attributeBase e "items" X.env (eval e X.env) = eval e X.env := by rfl) (hline : (apos.endLine == cpos.line) = true := by rfl) :
    PID X (.Tuple elts kk tpos) (.Call (.Attribute e "items" apos) [] [] cpos) (diItems T) := by
  refine ⟨fun pins s σ H R I ⟨η, G, P, hs, hr, t, k⟩ => ?_⟩
  refine wpAny_Call_method (T := "dict") (id := "dict.items") hbase rfl hline F.plainAttrs_dict F.slot_dict_items F.type_dict_items (thn (he.run pins s σ H (fun v H1 => ∃ d G1, (match dicP d with | some ps => P (ps.map fun p => .nd .tup [p.1, p.2]) always G1 | none => False) ∧ Ext H G H1 G1 ∧ HR X.ml H1 G1 ∧ VR X.ml H1 G1 d v) I ⟨η, G, _, hs, hr, t, fun d G1 v H1 p x r q => ⟨d, G1, p, x, r, q⟩⟩) fun u s1 ⟨x, H1, I1, rx, d, G1, p, x1, r1, q1⟩ => ?_)
  split at p
  · rename_i ps e
    obtain ⟨h1, h2⟩ := tyD_is I1 r1 q1 rx (dicP_ty e G1)
    obtain ⟨a, es, ep, kv, rfl, ent, pr, hl, ra, hra⟩ := dicP_at I1 r1 q1 e
    cases (show u = Value.ref a from rx)
    refine ⟨h1, h2, ?_⟩
    have hm := ra.raw I1
    have I2 : Inv X pins σ H1 { s1 with heap := s1.heap.push { cls := .type "dict_items", data := .fields #[.ref a] } } := I1.kept (t' := s1.toks) fun b ob q => Heap.get?_push_of_some _ q
    have fin : wpAny (model X.prog X.w) X.A (pyIter (.ref s1.heap.objs.size)) (PIE X pins σ (.Tuple elts kk tpos) R) X.xe { s1 with heap := s1.heap.push { cls := .type "dict_items", data := .fields #[.ref a] } } := by
      refine wpAny_pyIter_items_raw (d := a) ⟨_, Heap.get?_push_size _ rfl, rfl, rfl⟩ (hm.at fun o q => Heap.get?_push_of_some _ q) (pi_one (tk := s1.toks) I2 _ (turn_itw _ ent) ⟨.none, .none, ?_⟩ (k _ _ _ _ _ p x1 r1 (Itw.itD r1 pr hl hra)))
      exact Heap.get?_push_size _ rfl
    show wpAny _ _ (callWith cpos (.builtin "dict.items") [.ref a] [] []) _ X.xe s1
    exact method_meetsIn F.slot_dict_items F.entry_dict_items rfl (PySem.evalArgs_none ⟨rfl, h1, F.args_dict_items_1 _, _, meets_dict_items_raw a ra.2, ⟨es, ep, hm⟩, fin⟩)
  · exact p.elim
theorem pid_values {tg e : Expr} {T : DTE} {apos cpos : Pos} (he : PED X e T) (hbase : attributeBase e "values" X.env (eval e X.env) = eval e X.env := by rfl) (hline : (apos.endLine == cpos.line) = true := by rfl) :
    PID X tg (.Call (.Attribute e "values" apos) [] [] cpos) (diValues T) := by
  refine ⟨fun pins s σ H R I ⟨η, G, P, hs, hr, t, k⟩ => ?_⟩
  refine wpAny_Call_method (T := "dict") (id := "dict.values") hbase rfl hline F.plainAttrs_dict F.slot_dict_values F.type_dict_values (thn (he.run pins s σ H (fun v H1 => ∃ d G1, (match dicP d with | some ps => P (ps.map (·.2)) always G1 | none => False) ∧ Ext H G H1 G1 ∧ HR X.ml H1 G1 ∧ VR X.ml H1 G1 d v) I ⟨η, G, _, hs, hr, t, fun d G1 v H1 p x r q => ⟨d, G1, p, x, r, q⟩⟩) fun u s1 ⟨x, H1, I1, rx, d, G1, p, x1, r1, q1⟩ => ?_)
  split at p
  · rename_i ps e
    obtain ⟨h1, h2⟩ := tyD_is I1 r1 q1 rx (dicP_ty e G1)
    obtain ⟨a, es, ep, kv, rfl, ent, pr, hl, ra, hra⟩ := dicP_at I1 r1 q1 e
    cases (show u = Value.ref a from rx)
    refine ⟨h1, h2, ?_⟩
    have hm := ra.raw I1
    have I2 : Inv X pins σ H1 { s1 with heap := s1.heap.push { cls := .type "dict_values", data := .fields #[.ref a] } } := I1.kept (t' := s1.toks) fun b ob q => Heap.get?_push_of_some _ q
    have fin : wpAny (model X.prog X.w) X.A (pyIter (.ref s1.heap.objs.size)) (PIE X pins σ tg R) X.xe { s1 with heap := s1.heap.push { cls := .type "dict_values", data := .fields #[.ref a] } } := by
      refine wpAny_pyIter_values_raw (d := a) ⟨_, Heap.get?_push_size _ rfl, rfl, rfl⟩ (hm.at fun o q => Heap.get?_push_of_some _ q) (pi_one (tk := s1.toks) I2 _ (turn_itwv _ ent) ⟨_, Heap.get?_push_size _ rfl, rfl, rfl⟩ (k _ _ _ _ _ p x1 r1 (Itwv.itD r1 pr hl hra)))
    show wpAny _ _ (callWith cpos (.builtin "dict.values") [.ref a] [] []) _ X.xe s1
    exact method_meetsIn F.slot_dict_values F.entry_dict_values rfl (PySem.evalArgs_none ⟨rfl, h1, F.args_dict_values_1 _, _, meets_dict_values_raw a ra.2, ⟨es, ep, hm⟩, fin⟩)
  · exact p.elim
theorem pid_keys {tg e : Expr} {T : DTE} (he : PED X e T) : PID X tg e (diKeys T) := by
  refine ⟨fun pins s σ H R I ⟨η, G, P, hs, hr, t, k⟩ => ?_⟩
  refine thn (he.run pins s σ H (fun v H1 => ∃ d G1, (match dicP d with | some ps => P (ps.map (·.1)) always G1 | none => False) ∧ Ext H G H1 G1 ∧ HR X.ml H1 G1 ∧ VR X.ml H1 G1 d v) I ⟨η, G, _, hs, hr, t, fun d G1 v H1 p x r q => ⟨d, G1, p, x, r, q⟩⟩) fun u s1 ⟨x, H1, I1, rx, d, G1, p, x1, r1, q1⟩ => ?_
  split at p
  · rename_i ps e
    obtain ⟨a, es, ep, kv, rfl, ent, pr, hl, ra, hra⟩ := dicP_at I1 r1 q1 e
    cases (show u = Value.ref a from rx)
    exact wpAny_pyIter_dict_raw ra.2 (ra.raw I1) (pi_one (tk := s1.toks) I1 _ (turn_itwk _ ent) ⟨_, Heap.get?_push_size _ rfl, rfl, rfl⟩ (k _ _ _ _ _ p x1 r1 (Itwk.itD r1 pr hl hra)))
  · exact p.elim
/-! ### list(d), sorted: by the keys -/
end
end DL
namespace DL
open PySem PySem.Spec PyProof.Rows L2

/-! ### dict comprehensions, whatever the keys are -/
/-- a store of the dict at D by a comprehension -/
def StOk (Y : Cx) (St : Addr → V → V → Hp → (Hp → Prop) → Prop) : Prop := ∀ (D : Addr) (pins : List (Addr × Obj)) (σ : L2.St) (H : Hp) (s : Shared) (y z : V) (u r : Value) (Q : Hp → Prop) (E : Value → Shared → Prop), Inv Y pins σ H s → RelV y u → RelV z r → St D y z H Q →
  wpAny (model Y.prog Y.w) Y.A (dictSet D u r) (fun _ s' => ∃ H', Inv Y pins σ H' s' ∧ Q H') E s
section
variable {X : Cx}
def tDcG (o0 : Addr → HO) (St : Addr → V → V → Hp → (Hp → Prop) → Prop) (wi : TI) (g : TG) (tt : TT) (tk tv : TE) (vs : List Nat) : TE := fun σ H Q => wi σ H fun Jt M1 => ∀ D, M1 D = none → (D == sysModules) = false → ∃ Wi : Nat → Nat → Hp → Prop, (∃ n_m, Wi 0 n_m (upd M1 D (o0 D))) ∧ ∀ n_i n_m H, Wi n_i n_m H →
  (Jt.stop n_i H ∧ Q (.ref D) H) ∨ (Jt.go n_i H ∧ ∃ Nq : Hp → Prop, (∀ M', Nq M' → ∃ n_k, n_k < n_m ∧ Wi (n_i + 1) n_k M') ∧ ∀ v_x M', Jt.yld n_i H v_x M' → g v_x (wipe σ vs) M' fun τ M2 => wipe τ vs = wipe σ vs ∧ tt τ M2 fun ok_ M3 =>
    if ok_ = true then tk τ M3 fun ky M4 => tv τ M4 fun vz M5 => St D ky vz M5 Nq else Nq M3)
theorem dcG_core {pins : List (Addr × Obj)} {s : Shared} {σ : L2.St} {H : Hp} {Q : VK} {kx vx tg iter : Expr} {ifs : List Expr} {scope : Scope} {own : List (Str × Nat)} {pos pos' : Pos} {o0 : Addr → HO} {St : Addr → V → V → Hp → (Hp → Prop) → Prop} {tw : TI} {tg_ : TG} {tts : TT} {tkx tvx : TE} {use : Option (Value → Sem Unit)} {Qe : Value → Shared → Prop}
    (hc : X.calm = true) (hN : X.N.Nodup) (I : Inv X pins σ H s) (hi : PI X tg iter tw) (hbk : BlkOk X.N X.env.scope scope own)
    (hpg : ∀ (s : Shared) (H : Hp) (Cc : Addr) (cs_ : List (Str × Addr)) (ws : List Addr), PG (X.blk s H scope (compEnvC scope cs_ Cc X.env) ws) tg tg_) (hpt : ∀ (s : Shared) (H : Hp) (Cc : Addr) (cs_ : List (Str × Addr)) (ws : List Addr), PTs (X.blk s H scope (compEnvC scope cs_ Cc X.env) ws) ifs tts)
    (hpk : ∀ (s : Shared) (H : Hp) (Cc : Addr) (cs_ : List (Str × Addr)) (ws : List Addr), PE (X.blk s H scope (compEnvC scope cs_ Cc X.env) ws) kx tkx)
    (hpv : ∀ (s : Shared) (H : Hp) (Cc : Addr) (cs_ : List (Str × Addr)) (ws : List Addr), PE (X.blk s H scope (compEnvC scope cs_ Cc X.env) ws) vx tvx) (hfs : ∀ x, foldedSetIterable iter X.env x = pure x)
    (hnew : ∀ pins σ H s, Inv X pins σ H s → Inv X pins σ (upd H s.heap.objs.size (o0 s.heap.objs.size)) { s with heap := s.heap.push { cls := .type "dict", data := .dict #[] } }) (hst : ∀ (s : Shared) (H : Hp) (cenv : Env) (ws : List Addr), StOk (X.blk s H scope cenv ws) St)
    (h : tDcG o0 St tw tg_ tts tkx tvx (own.map (·.2)) σ H Q)
    (hend : ∀ Dd Cc s' n_m H', Inv X pins σ H' s' → Q (.ref Dd) H' → s'.heap.Ns Cc n_m → FpOk X pins H' Cc → compPost (model X.prog X.w) X.A X.xe use Qe (.ref Dd) Cc (.ok .next) s') :
    wpAny (model X.prog X.w) X.A (comprehension (.DictComp kx vx [⟨tg, iter, ifs, 0⟩] scope pos) scope X.env pos' newDict false (eval iter X.env) use) Qe X.xe s := by
  have hfr : ∀ y ∈ scope.names, y.2 = .free → ∃ c, X.env.cells.lookup y.1 = some c := fun y hy e => by
    rcases hbk.free y hy e with k | k
    · exact I.ok.has _ (.inl k)
    · exact I.ok.has _ (.inr k)
  refine wpAny_comprehension_free (use := use) rfl hfs (closure_ok hfr) hbk.kind (fun y hy e => by rw [hbk.uniq y hy, e])
    (thn (hi.run pins s σ H _ I h) fun xv1 t1 hx1 => thn hx1 fun iv1 t2 hh2 => ?_)
  obtain ⟨ia, ws, kd, Jt, M2, e, J2, Tu, u2, g2, q⟩ := hh2
  subst e
  refine wpAny_newObj_type
    (newEnv_comp ?_)
  generalize hd : t2.heap.objs.size = Dd
  have dn : M2 Dd = none := J2.hok.fresh (Nat.le_of_eq hd)
  obtain ⟨Wi, ⟨l0, z0⟩, trn⟩ := q Dd dn (by rw [← hd]; exact notSys J2)
  -- the new list
  generalize ht3 : ({ t2 with heap := t2.heap.push { cls := .type "dict", data := .dict #[] } } : Shared) = t3
  have J3 : Inv X pins σ (upd M2 Dd (o0 Dd)) t3 := by
    rw [← ht3]
    rw [← hd]
    exact hnew pins σ M2 t2 J2
  have h3 : t3.heap = t2.heap.push { cls := .type "dict", data := .dict #[] } := by rw [← ht3]
  have young : ∀ b ∈ ws, b < t2.heap.objs.size := fun b hb => by
    obtain ⟨o, e, _⟩ := Tu.obj _ _ u2 b hb
    exact Heap.lt_size e
  have g3 : ∀ b ∈ ws, FpOk X pins (upd M2 Dd (o0 Dd)) b ∧ b < t3.heap.objs.size := fun b hb => by
    have hlt := young b hb
    refine ⟨⟨?_, (g2 b hb).2⟩, by rw [h3, Heap.size_push]; exact Nat.lt_succ_of_lt hlt⟩
    rw [upd_ne (by rw [← hd]; exact Nat.ne_of_lt hlt)]
    exact (g2 b hb).1
  have u3 : kd 0 t3.heap := Tu.keep _ _ _ u2 fun b _ o e => by rw [h3]; exact Heap.get?_push_of_some _ e
  have J4 := block_start J3 hbk hN g3
  have pa1 := hpg t3 (upd M2 Dd (o0 Dd)) t3.heap.objs.size (cellsFrom (t3.heap.objs.size + 1) scope.names (cloFrom X.env.cells scope.names [])) ws
  have pa2 := hpt t3 (upd M2 Dd (o0 Dd)) t3.heap.objs.size (cellsFrom (t3.heap.objs.size + 1) scope.names (cloFrom X.env.cells scope.names [])) ws
  have pa3 := hpk t3 (upd M2 Dd (o0 Dd)) t3.heap.objs.size (cellsFrom (t3.heap.objs.size + 1) scope.names (cloFrom X.env.cells scope.names [])) ws
  have pa4 := hpv t3 (upd M2 Dd (o0 Dd)) t3.heap.objs.size (cellsFrom (t3.heap.objs.size + 1) scope.names (cloFrom X.env.cells scope.names [])) ws
  show codeAny _ _ (.compStart (.DictComp kx vx [⟨tg, iter, ifs, 0⟩] scope pos) 0 (.ref ia) (.ref Dd) (compEnvC scope (cellsFrom (t3.heap.objs.size + 1) scope.names (cloFrom X.env.cells scope.names [])) t3.heap.objs.size X.env)) (compPost (model X.prog X.w) X.A X.xe use Qe (.ref Dd) t3.heap.objs.size) { t3 with heap := pushCells (t3.heap.push { cls := .type "dict", data := .dict #[] }) scope.names }
  have gone : ∀ b ∈ ws, (upd M2 Dd (o0 Dd)) b = none := fun b hb => (g3 b hb).1.1
  generalize hcv : compEnvC scope (cellsFrom (t3.heap.objs.size + 1) scope.names (cloFrom X.env.cells scope.names [])) t3.heap.objs.size X.env = cv at J4 pa1 pa2 pa3 pa4 ⊢
  have cl_ : cv.locals = t3.heap.objs.size := by subst hcv; rfl
  generalize hM3 : upd M2 Dd (o0 Dd) = M3 at J3 J4 pa1 pa2 pa3 pa4 z0 gone g3
  generalize ht4 : ({ t3 with heap := pushCells (t3.heap.push { cls := .type "dict", data := .dict #[] }) scope.names } : Shared) = t4 at J4 ⊢
  have u4 : kd 0 t4.heap := Tu.keep _ _ _ u3 fun b _ o e => by rw [← ht4]; exact pushCells_keeps _ _ _ _ (Heap.get?_push_of_some _ e)
  have calm_ : ∀ {σ' : L2.St} {H' : Hp} {s' : Shared}, Inv (X.blk t3 M3 scope cv ws) [] σ' H' s' → (∀ b ∈ ws, H' b = none) → ∀ b ∈ ws, FpOk (X.blk t3 M3 scope cv ws) [] H' b := fun {σ' H' s'} J' hn b hb =>
    ⟨hn b hb, (J'.ok.exf b hb).1, J'.ok.exfs b hb, .inl hb, fun x c e => (J'.ok.exf b hb).2 x c e, fun p hp => absurd (show p ∈ ([] : List (Addr × Obj)) ++ [] from hp) (by simp)⟩
  have go_ : codeAny (model X.prog X.w) X.A (.compLoop (.DictComp kx vx [⟨tg, iter, ifs, 0⟩] scope pos) 0 (.ref ia) (.ref Dd) cv) (compPost (model X.prog X.w) X.A X.xe use Qe (.ref Dd) t3.heap.objs.size) t4 := by
    refine compLoop_anyD (fun n s' => ∃ n_i H', Inv (X.blk t3 M3 scope cv ws) [] (wipe σ (own.map (·.2))) H' s' ∧ kd n_i s'.heap ∧ (∀ b ∈ ws, H' b = none) ∧ Wi n_i n H') ?_ l0 ⟨0, M3, J4, u4, gone, z0⟩
    rintro n t5 ⟨n_i, M5, J5, u5, k5, z5⟩
    rcases trn n_i n M5 z5 with ⟨ends, q_⟩ | ⟨go, Nx, hnx, stp⟩
    · have e1 := Tu.done (X.blk t3 M3 scope cv ws) rfl rfl rfl hc n_i [] t5 _ M5 (fun _ _ => False) J5 (calm_ J5 k5) u5 ends
      refine thnF e1 fun r t6 ⟨hr, J6⟩ => ?_
      subst hr
      -- back in the def's context
      have J7 : Inv X pins σ M5 t6 := J3.call' (ch := ws) J6.os J6.base J6.hok J6.bare fun b hb => ⟨(g3 b hb).1.2.2.2.1, (g3 b hb).1.2.1, (g3 b hb).1.2.2.2.2.1, (g3 b hb).1.2.2.2.2.2⟩
      have cN : M5 t3.heap.objs.size = none := by
        have z : M5 cv.locals = none := J6.free
        rw [cl_] at z
        exact z
      obtain ⟨n_m, hn, _⟩ := J6.loc
      have hn : t6.heap.Ns cv.locals n_m := hn
      rw [cl_] at hn
      exact hend Dd t3.heap.objs.size t6 n_m M5 J7 q_ hn (J3.fpOk (Nat.le_refl _) cN)
    · have e2 := Tu.item (X.blk t3 M3 scope cv ws) rfl rfl rfl hc n_i [] t5 _ M5 (fun _ _ => False) J5 (calm_ J5 k5) u5 go
      refine thnF e2 fun r t6 ⟨u, hr, hh6⟩ => ?_
      subst hr
      refine thnF hh6 fun _ t7 ⟨x, M7, J7, r_7, y7, u7, k7⟩ => ?_
      have J7' := J7.pinned (calm_ J7 k7) (Tu.obj _ _ u7)
      refine thnF (pa1.run _ t7 _ M7 x u _ J7' r_7 (stp x M7 y7)) fun _ t8 ⟨σ8, M8, J8, hw8, p8⟩ => ?_
      refine thnF (pa2.run _ t8 σ8 M8 _ J8 p8) fun b t9 ⟨M9, J9, p9⟩ => ?_
      -- the turn's end
      have over : ∀ {s' : Shared} {H' : Hp}, Inv (X.blk t3 M3 scope cv ws) ([] ++ pinsAt ws t7.heap) σ8 H' s' → Nx H' → ∃ n_m, n_m < n ∧ ∃ n_i H', Inv (X.blk t3 M3 scope cv ws) [] (wipe σ (own.map (·.2))) H' s' ∧ kd n_i s'.heap ∧ (∀ b ∈ ws, H' b = none) ∧ Wi n_i n_m H' := fun {s' H'} J' nx => by
        obtain ⟨m', hm_, z'⟩ := hnx H' nx
        have pin1 : ∀ b ∈ ws, ∀ o, t7.heap.get? b = some o → s'.heap.get? b = some o ∧ H' b = none := fun b hb o e =>
          let z := J'.pin (b, o) (List.mem_append_right _ (List.mem_append_right _ (mem_pinsAt hb e)))
          ⟨z.1, z.2.1⟩
        have hlen8 : (wipe σ (own.map (·.2))).length = σ8.length := by
          rw [← hw8, wipe_length]
        refine ⟨m', hm_, n_i + 1, H', (J'.unpinned (pins := [])).weak hlen8 (fun j v e => ?_), Tu.keep _ _ _ u7 fun b hb o e => (pin1 b hb o e).1, fun b hb => ?_, z'⟩
        · rw [← hw8] at e
          exact (wipe_some e).1
        · obtain ⟨o, e, _⟩ := Tu.obj _ _ u7 b hb
          exact (pin1 b hb o e).2
      cases b with
      | false =>
        simp only [Bool.false_eq_true, if_false] at p9 ⊢
        exact over J9 p9
      | true =>
        simp only [if_true] at p9 ⊢
        refine thnF (pa3.run _ t9 σ8 M9 _ J9 p9) fun z ta ⟨k_y, Ma, Ja, ra, p10⟩ => ?_
        refine thnF (pa4.run _ ta σ8 Ma _ Ja p10) fun zz tb ⟨v_y, Mb, Jb, rb, nx⟩ => ?_
        exact thnF (hst t3 M3 cv ws Dd _ _ _ _ _ _ _ _ _ (fun _ _ => False) Jb ra rb nx) fun _ tc ⟨Mc, Jc, nx12⟩ => over Jc nx12
  exact codeAny_compStart_dict go_ (Tu.self X.A 0 _ _ _ u4 go_)
/-- as a value -/
theorem pe_dcG {o0 : Addr → HO} {St : Addr → V → V → Hp → (Hp → Prop) → Prop} {kx vx tg iter : Expr} {ifs : List Expr} {scope : Scope} {own : List (Str × Nat)} {pos : Pos} {tw : TI} {tg_ : TG} {tts : TT} {tkx tvx : TE} (hc : X.calm = true) (hN : X.N.Nodup) (hi : PI X tg iter tw) (hbk : BlkOk X.N X.env.scope scope own)
    (hnew : ∀ pins σ H s, Inv X pins σ H s → Inv X pins σ (upd H s.heap.objs.size (o0 s.heap.objs.size)) { s with heap := s.heap.push { cls := .type "dict", data := .dict #[] } }) (hst : ∀ (s : Shared) (H : Hp) (cenv : Env) (ws : List Addr), StOk (X.blk s H scope cenv ws) St)
    (hpg : ∀ (s : Shared) (H : Hp) (Cc : Addr) (cs_ : List (Str × Addr)) (ws : List Addr), PG (X.blk s H scope (compEnvC scope cs_ Cc X.env) ws) tg tg_) (hpt : ∀ (s : Shared) (H : Hp) (Cc : Addr) (cs_ : List (Str × Addr)) (ws : List Addr), PTs (X.blk s H scope (compEnvC scope cs_ Cc X.env) ws) ifs tts)
    (hpk : ∀ (s : Shared) (H : Hp) (Cc : Addr) (cs_ : List (Str × Addr)) (ws : List Addr), PE (X.blk s H scope (compEnvC scope cs_ Cc X.env) ws) kx tkx)
    (hpv : ∀ (s : Shared) (H : Hp) (Cc : Addr) (cs_ : List (Str × Addr)) (ws : List Addr), PE (X.blk s H scope (compEnvC scope cs_ Cc X.env) ws) vx tvx) (hfs : ∀ x, foldedSetIterable iter X.env x = pure x := by intro _; rfl) :
    PE X (.DictComp kx vx [⟨tg, iter, ifs, 0⟩] scope pos) (tDcG o0 St tw tg_ tts tkx tvx (own.map (·.2))) := by
  refine ⟨fun pins s σ H Q I h => ?_⟩
  rw [arm_eval_DictComp]
  refine dcG_core hc hN I hi hbk hpg hpt hpk hpv hfs hnew hst h fun Dd Cc s' n_m H' J' q hn f => ⟨n_m, hn, fun h'' sb => ?_⟩
  obtain ⟨f0, f1, g2, g3, f4, f5⟩ := f
  exact ⟨.ref Dd, H', J'.turned (t' := s'.toks) (fun b o hb e => (sb.2 b hb).trans e) f0 f1 g3 f4 f5, rfl, q⟩
/-- the store, at the trees -/
def stD (K : Ml) : Addr → V → V → Hp → (Hp → Prop) → Prop := fun D y z H Q => liftSet K dSet (.ref D) y z H Q ∧ ∀ xs, H D ≠ some (.lst xs)
theorem stD_ok {Y : Cx} (hu : Y.A.units + 64 < cLine) : StOk Y (stD Y.ml) := by
  intro a pins σ H s y z u r Q E I ry rz ⟨⟨do_, di, dv, G, P, hr, q1, q2, q3, t, k⟩, nl⟩
  cases do_ with
  | nd _ _ =>
    rw [VR] at q1
    exact t.elim
  | ref b =>
    rw [VR] at q1
    cases q1
    cases hG : G a with
    | none =>
      have : False := by simpa [dSet, hG] using t
      exact this.elim
    | some ob =>
      cases ob with
      | ins C fs =>
        have : False := by simpa [dSet, hG] using t
        exact this.elim
      | lst ds =>
        obtain ⟨vs, hv, _⟩ := hr a _ hG
        exact (nl vs hv).elim
      | dK kvs =>
        cases ek : di.kK with
        | none =>
          have : False := by simpa [dSet, hG, ek] using t
          exact this.elim
        | some kk =>
          have t : kvs.length < sizeLine ∧ P (up G a (.dK (dput kvs kk dv))) := by simpa [dSet, hG, ek] using t
          obtain ⟨ws, hw, hks, r'⟩ := hr a _ hG
          have e := kK_vr q2 ek
          subst e
          have x : Ext H G (upd H a (.dK (putK ws kk z))) (up G a (.dK (dput kvs kk dv))) := .write hG
          obtain ⟨p1, p2⟩ := put_vr kk q3 hks r'
          have hl : ws.length < sizeLine := by
            have := congrArg List.length hks
            rw [List.length_map, List.length_map] at this
            rw [this]; exact t.1
          exact d_dictSet I hw hl ry rz fun s' I' => ⟨_, I', k _ _ t.2 x (hr.write hG ⟨_, upd_same, p1, p2.ext hr x⟩)⟩
      | dN kvs =>
        cases di with
        | nd kd ks =>
          cases kd with
          | tup =>
            cases ek : D.key (.nd .tup ks) with
            | none =>
              have : False := by simpa [dSet, hG, ek] using t
              exact this.elim
            | some kk =>
              have t : (kk.depth ≤ 8 ∧ kvs.length < sizeLine) ∧ P (up G a (.dN (dput kvs kk dv))) := by simpa [dSet, hG, ek] using t
              obtain ⟨⟨h8, hl⟩, t⟩ := t
              have ka := key_at q2 ek
              rw [VR] at q2
              obtain ⟨b, vs, rfl, hb, rb⟩ := q2
              cases (show u = Value.ref b from ry)
              obtain ⟨ws, dn, vr⟩ := hr a _ hG
              obtain ⟨xs, es, ep, h1, h2, h3, h4, h5, h6, h7, h9, h10⟩ := DnAt.of I dn
              refine wpAny_dictSet_heap (hsz := by have := congrArg List.length h6; rw [List.length_map] at this; rw [this]; exact h7) (show (nestedKind Y.prog Y.w).room Y.A by show Y.A.units + 8 < cLine; omega) ⟨nested_is I ka rfl, h8⟩ h4 fun h' hm' hs => ?_
              obtain ⟨H', I', x, r'⟩ := dn_put (t' := s.toks + (nestedKind Y.prog Y.w).draws kk) I hr hG h1 h5 h4 h6 h9 h10 vr ka h8 q3 rz hl hm' hs
              exact ⟨H', I', k _ _ t x r'⟩
          | _ =>
            have : False := by simpa [dSet, hG] using t
            exact this.elim
        | _ =>
          have : False := by simpa [dSet, hG] using t
          exact this.elim
  | _ => exact t.elim
/-- {k: v for tg in iter if ..}: a tracked dict -/
def dDc (o : DO) (wi : DTI) (g : DTG) (tt : DTT) (tk tv : DTE) (own : List Nat) : DTE := fun η G Q => wi η G fun ds ok G1 => ∀ p, G1 p = none → ∃ W : Nat → DHp → Prop, W 0 (up G1 p o) ∧ (∀ i G, W i G → ok G ∧ ∀ xs, G p ≠ some (.lst xs)) ∧
  (∀ i d G, ds[i]? = some d → W i G → g d (wipeD η own) G fun η2 G2 => tt η2 G2 fun b G3 => if b = true then tk η2 G3 fun y G4 => tv η2 G4 fun z G5 => (∀ xs, G5 p ≠ some (.lst xs)) ∧ dSet (.ref p) y z G5 (W (i + 1)) else W (i + 1) G3) ∧
  ∀ G, W ds.length G → Q (.ref p) G
def o0K : Addr → HO := fun _ => .dK []
def o0N : Addr → HO := fun a => rawO a #[] 0
theorem dc_lift {K : Ml} {o0 : Addr → HO} {o : DO} {wi : DTI} {g : DTG} {tt : DTT} {tk tv : DTE} {own is : List Nat} {σ : L2.St} {H : Hp} {Q : VK} (hsub : ∀ i ∈ is, i ∈ own) (hor : ∀ H G D, H D = some (o0 D) → (D == sysModules) = false → OR K H G D o) (hnl : ∀ H G D ob, OR K H G D ob → (∀ ds, ob ≠ .lst ds) → ∀ xs, H D ≠ some (.lst xs))
    (h : liftE K (dDc o wi g tt tk tv own) σ H Q) : tDcG o0 (stD K) (liftI K wi) (liftG K is g) (liftT K tt) (liftE K tk) (liftE K tv) own σ H Q := by
  obtain ⟨η, G, P, hs, hr, t, k⟩ := h
  refine ⟨η, G, _, hs, hr, t, fun ds ok G1 J H1 pp x r it => ?_⟩
  intro D hD hsys
  have gD : G1 D = none := r.free hD
  obtain ⟨W, w0, wok, step, fin⟩ := pp D gD
  have xD : Ext H1 G1 (upd H1 D (o0 D)) (up G1 D o) := .new hD
  have rD : HR K (upd H1 D (o0 D)) (up G1 D o) := r.new hD (hor _ _ _ upd_same hsys)
  refine ⟨fun i m H' => m = ds.length - i ∧ i ≤ ds.length ∧ ∃ G', W i G' ∧ Ext H1 G1 H' G' ∧ HR K H' G',
    ⟨ds.length, by simp, Nat.zero_le _, _, w0, xD, rD⟩, ?_⟩
  rintro i m H2 ⟨rfl, hle, G2, w1, x1, r1⟩
  obtain ⟨a1, a2⟩ := it i H2 G2 x1 r1 (wok _ _ w1).1
  by_cases hlt : i < ds.length
  · have e : ds[i]? = some ds[i] := by simp [hlt]
    obtain ⟨go, yl⟩ := a1 _ e
    refine .inr ⟨go, fun H' => ∃ G', W (i + 1) G' ∧ Ext H1 G1 H' G' ∧ HR K H' G', fun H' ⟨G', z⟩ => ⟨_, by omega, rfl, hlt, G', z⟩, fun y H3 hy => ?_⟩
    obtain ⟨x3, r3, v3⟩ := yl y H3 hy
    have s3 : SR K H3 G2 (wipe σ own) (wipeD η own) := ((hs.ext hr x).ext r (x1.trans x3)).wipe own
    refine ⟨_, wipeD η own, G2, _, v3, s3, r3, step i _ G2 e w1, fun η4 G4 σ4 H4 p4 x4 s4 r4 wp => ⟨?_, η4, G4, _, s4, r4, p4, fun b G5 H5 p5 x5 r5 => ?_⟩⟩
    · have hlen : (wipe σ own).length = σ4.length := by
        have := congrArg List.length wp
        rw [wipe_length, wipe_length] at this
        exact this.symm
      rw [wipe_sub (vs := own) wp hsub hlen]
      exact wipe_idem _ _
    · by_cases hb : b = true
      · subst hb
        rw [if_pos rfl] at p5 ⊢
        refine ⟨η4, G5, _, s4.ext r4 x5, r5, p5, fun dk G6 vk H6 p6 x6 r6 q6 => ⟨η4, G6, _, (s4.ext r4 x5).ext r5 x6, r6, p6, fun dy G7 vy H7 ⟨nl7, p7⟩ x7 r7 q7 => ⟨⟨.ref D, dk, dy, G7, _, r7, by rw [VR], q6.ext r6 x7, q7, p7, fun G8 H8 w8 x8 r8 => ⟨G8, w8, (x1.trans ((((x3.trans x4).trans x5).trans x6).trans x7)).trans x8, r8⟩⟩, ?_⟩⟩⟩
        have : ∃ ob, G7 D = some ob := by
          cases e7 : G7 D with
          | none =>
            have : False := by simpa [dSet, e7] using p7
            exact this.elim
          | some ob => exact ⟨ob, rfl⟩
        obtain ⟨ob, e7⟩ := this
        exact hnl _ _ _ ob (r7 D ob e7) fun ds e => nl7 ds (by rw [e7, e])
      · rw [if_neg hb] at p5 ⊢
        exact ⟨G5, p5, x1.trans ((x3.trans x4).trans x5), r5⟩
  · have e : i = ds.length := by omega
    subst e
    exact .inl ⟨a2 (Nat.le_refl _), k (.ref D) G2 (.ref D) H2 (fin _ w1) (x.trans x1) r1 (by rw [VR])⟩
theorem or_nl {K : Ml} (H : Hp) (G : DHp) (D : Addr) (ob : DO) (h : OR K H G D ob) (n : ∀ ds, ob ≠ .lst ds) (xs : List V) : H D ≠ some (.lst xs) := fun e => by
  cases ob with
  | lst ds => exact n ds rfl
  | dK ds => obtain ⟨_, e', _⟩ := h; rw [e] at e'; cases e'
  | dN ds => obtain ⟨_, ⟨_, _, _, e', _⟩, _⟩ := h; rw [e] at e'; cases e'
  | ins C fs => obtain ⟨_, _, e', _⟩ := h; rw [e] at e'; cases e'
theorem ped_dcK {kx vx tg iter : Expr} {ifs : List Expr} {scope : Scope} {own : List (Str × Nat)} {is : List Nat} {pos : Pos} {wi : DTI} {g : DTG} {tt : DTT} {tk tv : DTE} (hu : X.A.units + 64 < cLine) (hc : X.calm = true) (hN : X.N.Nodup) (hi : PID X tg iter wi) (ok : BlkOk X.N X.env.scope scope own)
    (hg : ∀ (s : Shared) (H : Hp) (C : Addr) (cl : List (Str × Addr)) (fp : List Addr), PGD (X.blk s H scope (compEnvC scope cl C X.env) fp) tg is g) (ht : ∀ (s : Shared) (H : Hp) (C : Addr) (cl : List (Str × Addr)) (fp : List Addr), PTsD (X.blk s H scope (compEnvC scope cl C X.env) fp) ifs tt)
    (hk : ∀ (s : Shared) (H : Hp) (C : Addr) (cl : List (Str × Addr)) (fp : List Addr), PED (X.blk s H scope (compEnvC scope cl C X.env) fp) kx tk)
    (he : ∀ (s : Shared) (H : Hp) (C : Addr) (cl : List (Str × Addr)) (fp : List Addr), PED (X.blk s H scope (compEnvC scope cl C X.env) fp) vx tv) (hsub : ∀ i ∈ is, i ∈ own.map (·.2) := by decide) (hs : ∀ x, foldedSetIterable iter X.env x = pure x := by intro _; rfl) :
    PED X (.DictComp kx vx [⟨tg, iter, ifs, 0⟩] scope pos) (dDc (.dK []) wi g tt tk tv (own.map (·.2))) :=
  PE.impI (pe_dcG (o0 := o0K) (St := stD X.ml) hc hN hi ok (fun pins σ H s I => I.laid (t' := s.toks) (fun _ _ q => Heap.get?_push_of_some _ q) (Nat.le_refl _) (dk_empty s.heap I.big)) (fun s H cenv fp => stD_ok (Y := X.blk s H scope cenv fp) hu) hg ht hk he hs)
    fun _ _ _ _ _ _ h => dc_lift (o := .dK []) hsub (fun H G D e _ => ⟨[], e, rfl, .nil⟩) or_nl h
theorem ped_dcN {kx vx tg iter : Expr} {ifs : List Expr} {scope : Scope} {own : List (Str × Nat)} {is : List Nat} {pos : Pos} {wi : DTI} {g : DTG} {tt : DTT} {tk tv : DTE} (hu : X.A.units + 64 < cLine) (hc : X.calm = true) (hN : X.N.Nodup) (hi : PID X tg iter wi) (ok : BlkOk X.N X.env.scope scope own)
    (hg : ∀ (s : Shared) (H : Hp) (C : Addr) (cl : List (Str × Addr)) (fp : List Addr), PGD (X.blk s H scope (compEnvC scope cl C X.env) fp) tg is g) (ht : ∀ (s : Shared) (H : Hp) (C : Addr) (cl : List (Str × Addr)) (fp : List Addr), PTsD (X.blk s H scope (compEnvC scope cl C X.env) fp) ifs tt)
    (hk : ∀ (s : Shared) (H : Hp) (C : Addr) (cl : List (Str × Addr)) (fp : List Addr), PED (X.blk s H scope (compEnvC scope cl C X.env) fp) kx tk)
    (he : ∀ (s : Shared) (H : Hp) (C : Addr) (cl : List (Str × Addr)) (fp : List Addr), PED (X.blk s H scope (compEnvC scope cl C X.env) fp) vx tv) (hsub : ∀ i ∈ is, i ∈ own.map (·.2) := by decide) (hs : ∀ x, foldedSetIterable iter X.env x = pure x := by intro _; rfl) :
    PED X (.DictComp kx vx [⟨tg, iter, ifs, 0⟩] scope pos) (dDc (.dN []) wi g tt tk tv (own.map (·.2))) :=
  PE.impI (pe_dcG (o0 := o0N) (St := stD X.ml) hc hN hi ok (fun pins σ H s I => raw_empty I) (fun s H cenv fp => stD_ok (Y := X.blk s H scope cenv fp) hu) hg ht hk he hs)
    fun _ _ _ _ _ _ h => dc_lift (o := .dN []) hsub (fun H G D e n => ⟨[], dnAt_empty e n, .nil⟩) or_nl h
end
end DL
namespace DL
open PySem PySem.Spec PyProof.Rows L2

section
variable {X : Cx}
/-! ### name = {..} on one line -/
theorem sw_trueD {kx vx : Expr} {gs : List Comprehension} {scope : Scope} {pos py : Pos} {y : Str} {l : Nat} {env_ : Env} (hkn : env_.scope.kind = .function) (hyn : env_.scope.names.lookup y = some .local) (hln : (py.line == pos.line) = true)
    (had : (scope.names.any fun (n_, k_) => n_ == y && (k_ == .local || k_ == .cell)) = false) : swapsWith (.DictComp kx vx gs scope pos) (some (.Name y py)) l env_ = pure true := by
  have kyn : env_.kindOf y = some .local := hyn
  have hbn : env_.blockKind = .function := by unfold Env.blockKind; rw [hkn]; rfl
  unfold swapsWith
  simp only [hbn, kyn, Expr.pos, had, hln]
  rfl
theorem ps_setDcG {i : Nat} {y : Str} {py : Pos} {o0 : Addr → HO} {St : Addr → V → V → Hp → (Hp → Prop) → Prop} {kx vx tg iter : Expr} {ifs : List Expr} {scope : Scope} {own : List (Str × Nat)} {pos spos : Pos} {wi : TI} {g : TG} {tt : TT} {tk tv : TE} (hc : X.calm = true) (hN : X.N.Nodup) (hyn : X.N[i]? = some y) (hyl : X.env.scope.names.lookup y = some .local)
    (hsw : swapsWith (.DictComp kx vx [⟨tg, iter, ifs, 0⟩] scope pos) (some (.Name y py)) spos.line X.env = pure true) (hi : PI X tg iter wi) (ok : BlkOk X.N X.env.scope scope own)
    (hnew : ∀ pn τ M s_a, Inv X pn τ M s_a → Inv X pn τ (upd M s_a.heap.objs.size (o0 s_a.heap.objs.size)) { s_a with heap := s_a.heap.push { cls := .type "dict", data := .dict #[] } }) (hst : ∀ (s_a : Shared) (M : Hp) (cenv : Env) (ws_ : List Addr), StOk (X.blk s_a M scope cenv ws_) St)
    (hpg : ∀ (s_a : Shared) (M : Hp) (Cn : Addr) (cs_ : List (Str × Addr)) (ws_ : List Addr), PG (X.blk s_a M scope (compEnvC scope cs_ Cn X.env) ws_) tg g) (hpt : ∀ (s_a : Shared) (M : Hp) (Cn : Addr) (cs_ : List (Str × Addr)) (ws_ : List Addr), PTs (X.blk s_a M scope (compEnvC scope cs_ Cn X.env) ws_) ifs tt)
    (hkn : ∀ (s_a : Shared) (M : Hp) (Cn : Addr) (cs_ : List (Str × Addr)) (ws_ : List Addr), PE (X.blk s_a M scope (compEnvC scope cs_ Cn X.env) ws_) kx tk)
    (hpv : ∀ (s_a : Shared) (M : Hp) (Cn : Addr) (cs_ : List (Str × Addr)) (ws_ : List Addr), PE (X.blk s_a M scope (compEnvC scope cs_ Cn X.env) ws_) vx tv) (hfs : ∀ x_, foldedSetIterable iter X.env x_ = pure x_ := by intro _; rfl) :
    PS X (.Assign [.Name y py] (.DictComp kx vx [⟨tg, iter, ifs, 0⟩] scope pos) spos) (tAsg (tDcG o0 St wi g tt tk tv (own.map (·.2))) (gName i)) := by
  refine ⟨fun pn s_a τ M Dn Iv hq => ?_⟩
  rw [exec_Assign_Name_used _ _ _ _ hsw]
  refine wpAny_bind (wpAny_standAt (wpAny_bind ?_))
  show wpAny _ X.A (do let _ ← comprehension (.DictComp kx vx [⟨tg, iter, ifs, 0⟩] scope pos) scope X.env (firstIterPos [⟨tg, iter, ifs, 0⟩] pos) newDict false (eval iter X.env) (some (assign (.Name y py) X.env))) _ _ s_a
  have hq : tDcG o0 St wi g tt tk tv (own.map (·.2)) τ M (fun x_ H1 => gName i x_ τ H1 Dn.nx) := hq
  refine wpAny_bind (thn (dcG_core (Qe := fun _ s_b => SP X pn Dn .next s_b) hc hN Iv hi ok hpg hpt hkn hpv hfs hnew hst hq fun Ln Cn s_b n_m M' Iw qv hns hfp => ?_) fun _ s_b hq => wpAny_pure (wpAny_pure hq))
  show wpAny _ _ (assign (.Name y py) X.env (.ref Ln)) _ _ _
  refine wpAny_assign_Name (store_ok2 (v := V.ref Ln) Iw hN hyn (.inl hyl) rfl (fun s_c Ix ⟨ad, sbt, had⟩ => ?_) (.inr hyl))
  obtain ⟨p0, p1, p2, p3, p4, p5⟩ := hfp
  have hne : Cn ≠ ad := by
    rcases had with zz | zz
    · rw [zz]; exact p1
    · exact fun e_ => p4 y ad zz e_.symm
  refine ⟨n_m, hns.sameBut sbt hne, fun hp3 sbt3 => ?_⟩
  exact ⟨_, M', Ix.turned (t' := s_c.toks) (fun b_ o_ hbn e_ => (sbt3.2 b_ hbn).trans e_) p0 p1 p3 p4 p5, qv⟩
theorem psd_setDcN {i : Nat} {y : Str} {py : Pos} {kx vx tg iter : Expr} {ifs : List Expr} {scope : Scope} {own : List (Str × Nat)} {is : List Nat} {pos spos : Pos} {wi : DTI} {g : DTG} {tt : DTT} {tk tv : DTE} (hu : X.A.units + 64 < cLine) (hc : X.calm = true) (hN : X.N.Nodup) (hy : X.N[i]? = some y) (hyl : X.env.scope.names.lookup y = some .local)
    (hsw : swapsWith (.DictComp kx vx [⟨tg, iter, ifs, 0⟩] scope pos) (some (.Name y py)) spos.line X.env = pure true) (hi : PID X tg iter wi) (ok : BlkOk X.N X.env.scope scope own)
    (hg : ∀ (s : Shared) (H : Hp) (C : Addr) (cl : List (Str × Addr)) (fp : List Addr), PGD (X.blk s H scope (compEnvC scope cl C X.env) fp) tg is g) (ht : ∀ (s : Shared) (H : Hp) (C : Addr) (cl : List (Str × Addr)) (fp : List Addr), PTsD (X.blk s H scope (compEnvC scope cl C X.env) fp) ifs tt)
    (hk : ∀ (s : Shared) (H : Hp) (C : Addr) (cl : List (Str × Addr)) (fp : List Addr), PED (X.blk s H scope (compEnvC scope cl C X.env) fp) kx tk)
    (he : ∀ (s : Shared) (H : Hp) (C : Addr) (cl : List (Str × Addr)) (fp : List Addr), PED (X.blk s H scope (compEnvC scope cl C X.env) fp) vx tv) (hsub : ∀ i ∈ is, i ∈ own.map (·.2) := by decide) (hs : ∀ x, foldedSetIterable iter X.env x = pure x := by intro _; rfl) :
    PSD X (.Assign [.Name y py] (.DictComp kx vx [⟨tg, iter, ifs, 0⟩] scope pos) spos) (dAsg (dDc (.dN []) wi g tt tk tv (own.map (·.2))) (gdName i)) :=
  PS.impI (ps_setDcG (o0 := o0N) (St := stD X.ml) hc hN hy hyl hsw hi ok (fun pins σ H s I => raw_empty I) (fun s H cenv fp => stD_ok (Y := X.blk s H scope cenv fp) hu) hg ht hk he hs)
    fun _ _ σ H E _ ⟨η, G, F, hs, hr, t, k⟩ => show tDcG _ _ _ _ _ _ _ _ σ H _ from dc_lift (o := .dN []) hsub (fun H G D e n => ⟨[], dnAt_empty e n, .nil⟩) or_nl ⟨η, G, _, hs, hr, t, fun d G1 v H1 p1 x1 r1 q1 => k.nx _ G1 _ H1 p1 x1 ((hs.ext hr x1).set i q1) r1⟩
theorem psd_setDcK {i : Nat} {y : Str} {py : Pos} {kx vx tg iter : Expr} {ifs : List Expr} {scope : Scope} {own : List (Str × Nat)} {is : List Nat} {pos spos : Pos} {wi : DTI} {g : DTG} {tt : DTT} {tk tv : DTE} (hu : X.A.units + 64 < cLine) (hc : X.calm = true) (hN : X.N.Nodup) (hy : X.N[i]? = some y) (hyl : X.env.scope.names.lookup y = some .local)
    (hsw : swapsWith (.DictComp kx vx [⟨tg, iter, ifs, 0⟩] scope pos) (some (.Name y py)) spos.line X.env = pure true) (hi : PID X tg iter wi) (ok : BlkOk X.N X.env.scope scope own)
    (hg : ∀ (s : Shared) (H : Hp) (C : Addr) (cl : List (Str × Addr)) (fp : List Addr), PGD (X.blk s H scope (compEnvC scope cl C X.env) fp) tg is g) (ht : ∀ (s : Shared) (H : Hp) (C : Addr) (cl : List (Str × Addr)) (fp : List Addr), PTsD (X.blk s H scope (compEnvC scope cl C X.env) fp) ifs tt)
    (hk : ∀ (s : Shared) (H : Hp) (C : Addr) (cl : List (Str × Addr)) (fp : List Addr), PED (X.blk s H scope (compEnvC scope cl C X.env) fp) kx tk)
    (he : ∀ (s : Shared) (H : Hp) (C : Addr) (cl : List (Str × Addr)) (fp : List Addr), PED (X.blk s H scope (compEnvC scope cl C X.env) fp) vx tv) (hsub : ∀ i ∈ is, i ∈ own.map (·.2) := by decide) (hs : ∀ x, foldedSetIterable iter X.env x = pure x := by intro _; rfl) :
    PSD X (.Assign [.Name y py] (.DictComp kx vx [⟨tg, iter, ifs, 0⟩] scope pos) spos) (dAsg (dDc (.dK []) wi g tt tk tv (own.map (·.2))) (gdName i)) :=
  PS.impI (ps_setDcG (o0 := o0K) (St := stD X.ml) hc hN hy hyl hsw hi ok (fun pins σ H s I => I.laid (t' := s.toks) (fun _ _ q => Heap.get?_push_of_some _ q) (Nat.le_refl _) (dk_empty s.heap I.big)) (fun s H cenv fp => stD_ok (Y := X.blk s H scope cenv fp) hu) hg ht hk he hs)
    fun _ _ σ H E _ ⟨η, G, F, hs, hr, t, k⟩ => show tDcG _ _ _ _ _ _ _ _ σ H _ from dc_lift (o := .dK []) hsub (fun H G D e _ => ⟨[], e, rfl, .nil⟩) or_nl ⟨η, G, _, hs, hr, t, fun d G1 v H1 p1 x1 r1 q1 => k.nx _ G1 _ H1 p1 x1 ((hs.ext hr x1).set i q1) r1⟩

/-! ### dict(pairs), the keys tuples -/
/-- the pairs of a list -/
def prsN : List D → Option (List (NestedKey × D))
  | [] => some []
  | .nd .tup [k, v] :: r => match k, D.key k, prsN r with
    | .nd .tup _, some k, some ps => some ((k, v) :: ps)
    | _, _, _ => none
  | _ :: _ => none
def dputs (kvs ps : List (NestedKey × D)) : List (NestedKey × D) := ps.foldl (fun acc p => dput acc p.1 p.2) kvs
/-- each pair as it stands in the heap -/
def PrAt (K : Ml) (H : Hp) (G : DHp) (x : NestedKey × Addr × Value) (p : NestedKey × D) : Prop := x.1 = p.1 ∧ KeyAt K H x.1 (.ref x.2.1) ∧ ∃ v, RelV v x.2.2 ∧ VR K H G p.2 v
theorem prs_at {K : Ml} {H : Hp} {G : DHp} {pins : List (Addr × Obj)} {σ : L2.St} {s : Shared} : ∀ {ds : List D} {ps : List (NestedKey × D)} {vs : List V} {us : List Value}, Inv X pins σ H s → K = X.ml → prsN ds = some ps → VRs K H G ds vs → Vals vs us →
    ∃ (xs : List (NestedKey × Addr × Value)) (Ts : List Addr), Paired (PrAt K H G) xs ps ∧ us = Ts.map Value.ref ∧ Ts.length = xs.length ∧ ∀ (j : Nat) (x : NestedKey × Addr × Value), xs[j]? = some x → ∃ T, Ts[j]? = some T ∧ s.heap.IsTuple T #[.ref x.2.1, x.2.2]
  | [], ps, vs, us, I, hK, e, h, r => by
    cases e
    rw [h.nil_of] at r
    cases r
    exact ⟨[], [], .nil, rfl, rfl, fun j x e => by simp at e⟩
  | d :: ds, ps, vs, us, I, hK, e, h, r => by
    unfold prsN at e
    split at e
    · rename_i h0; cases h0
    · rename_i k v r' h0
      cases h0
      split at e
      · rename_i kk ks k' ps' e2 e1
        cases e
        obtain ⟨z, zs, rfl, q, t⟩ := h.uncons
        cases r with
        | cons r1 r2 =>
          obtain ⟨xs, Ts, p1, p2, p3, p4⟩ := prs_at I hK e2 t r2
          rw [VR] at q
          obtain ⟨a, ws, rfl, q, qs⟩ := q
          obtain ⟨w1, ws, rfl, qk, qs⟩ := qs.uncons
          obtain ⟨w2, ws, rfl, qv, qs⟩ := qs.uncons
          cases qs.nil_of
          cases r1
          subst hK
          have ka := key_at qk e1
          rw [VR] at qk
          obtain ⟨b, bs, rfl, hb, rb⟩ := qk
          obtain ⟨its, rv, tt, hz⟩ := I.tuple q
          obtain ⟨u1, u2, rfl, ru1, ru2⟩ := rv.two
          cases ru1
          refine ⟨(k', b, u2) :: xs, a :: Ts, .cons ⟨rfl, ka, w2, ru2, qv⟩ p1, by rw [p2]; rfl, by simp [p3], fun j x e => ?_⟩
          cases j with
          | zero =>
            simp only [List.getElem?_cons_zero, Option.some.injEq] at e
            subst e
            exact ⟨a, rfl, tt⟩
          | succ j => simpa using p4 j x (by simpa using e)
      · cases e
    · cases e
theorem paired_len {α β : Type} {F : α → β → Prop} : ∀ {xs : List α} {ys : List β}, Paired F xs ys → xs.length = ys.length
  | _, _, .nil => rfl
  | _, _, .cons _ t => by rw [List.length_cons, List.length_cons, paired_len t]
theorem prAt_atKey {K : Ml} {H : Hp} {G : DHp} {k : NestedKey} : ∀ {xs : List (NestedKey × Addr × Value)} {ps : List (NestedKey × D)}, Paired (PrAt K H G) xs ps → (atKey xs k).isSome = (dval ps k).isSome
  | _, _, .nil => rfl
  | _, _, .cons (a := x) (b := p) h t => by
    have e := h.1
    by_cases q : p.1 = k
    · simp [atKey, dval, List.find?_cons, e, q]
    · have := prAt_atKey (k := k) t
      simpa [atKey, dval, List.find?_cons, e, q] using this
theorem prAt_store {K : Ml} {H : Hp} {G : DHp} {xs : List (NestedKey × Addr × Value)} {ps : List (NestedKey × D)} {x : NestedKey × Addr × Value} {p : NestedKey × D} (h : Paired (PrAt K H G) xs ps) (q : PrAt K H G x p) :
    Paired (PrAt K H G) (storedH xs x.1 x.2.1 x.2.2) (dput ps p.1 p.2) := by
  unfold storedH dput
  rw [any_dval, ← q.1, prAt_atKey h]
  split
  · have : ∀ {xs : List (NestedKey × Addr × Value)} {ps : List (NestedKey × D)}, Paired (PrAt K H G) xs ps → Paired (PrAt K H G) (xs.map (putAt x.1 x.2.2)) (ps.map fun z => if z.1 = x.1 then (z.1, p.2) else z) := by
      intro xs ps h
      induction h with
      | nil => exact .nil
      | @cons a b l1 l2 r t ih =>
        refine .cons ?_ ih
        obtain ⟨r1, r2, r3⟩ := r
        show PrAt K H G (putAt x.1 x.2.2 a) (if b.1 = x.1 then (b.1, p.2) else b)
        by_cases e : b.1 = x.1
        · rw [if_pos e]
          unfold putAt
          rw [if_pos (by rw [r1]; exact e)]
          exact ⟨r1, r2, q.2.2⟩
        · rw [if_neg e]
          unfold putAt
          rw [if_neg (by rw [r1]; exact e)]
          exact ⟨r1, r2, r3⟩
    exact this h
  · exact h.snoc ⟨rfl, q.2⟩
theorem prAt_stores {K : Ml} {H : Hp} {G : DHp} {xs : List (NestedKey × Addr × Value)} {ps : List (NestedKey × D)} (h : Paired (PrAt K H G) xs ps) : ∀ {ys : List (NestedKey × Addr × Value)} {qs : List (NestedKey × D)}, Paired (PrAt K H G) ys qs → Paired (PrAt K H G) (storedAllH ys xs) (dputs qs ps) := by
  induction h with
  | nil => intro ys qs h; exact h
  | cons r t ih => intro ys qs h; exact ih (prAt_store h r)
theorem prAt_split {K : Ml} {H : Hp} {G : DHp} : ∀ {xs : List (NestedKey × Addr × Value)} {ps : List (NestedKey × D)}, Paired (PrAt K H G) xs ps → xs.map (·.1) = ps.map (·.1) ∧ ∃ vs, Vals vs (xs.map (·.2.2)) ∧ VRs K H G (ps.map (·.2)) vs
  | _, _, .nil => ⟨rfl, [], .nil, .nil⟩
  | _, _, .cons ⟨r1, r2, v, r3, r4⟩ t => by
    obtain ⟨a, vs, b, c⟩ := prAt_split t
    exact ⟨by rw [List.map_cons, List.map_cons, r1, a], v :: vs, .cons r3 b, .cons r4 c⟩
theorem prAt_keys {K : Ml} {H : Hp} {G : DHp} (B : Nat) : ∀ {xs : List (NestedKey × Addr × Value)} {ps : List (NestedKey × D)}, Paired (PrAt K H G) xs ps → (∀ p ∈ ps, p.1.depth ≤ B) → ∀ x ∈ xs, KeyAt K H x.1 (.ref x.2.1) ∧ x.1.depth ≤ B
  | _, _, .nil, _, _, h => nomatch h
  | _, _, .cons ⟨r1, r2, _⟩ t, h, x, hx => by
    rcases List.mem_cons.mp hx with rfl | hx
    · exact ⟨r2, by rw [r1]; exact h _ (by simp)⟩
    · exact prAt_keys B t (fun p hp => h p (by simp [hp])) x hx
theorem dputs_mem {k : NestedKey} : ∀ (ps kvs : List (NestedKey × D)) {p : NestedKey × D}, p ∈ dputs kvs ps → (∃ q ∈ kvs, q.1 = p.1) ∨ ∃ q ∈ ps, q.1 = p.1
  | [], kvs, p, h => .inl ⟨p, h, rfl⟩
  | z :: ps, kvs, p, h => by
    rcases dputs_mem (k := k) ps (dput kvs z.1 z.2) h with ⟨q, hq, e⟩ | ⟨q, hq, e⟩
    · unfold dput at hq
      split at hq
      · obtain ⟨y, hy, rfl⟩ := List.mem_map.mp hq
        refine .inl ⟨y, hy, ?_⟩
        rw [← e]
        split <;> rfl
      · rcases List.mem_append.mp hq with hq | hq
        · exact .inl ⟨q, hq, e⟩
        · simp at hq
          subst hq
          exact .inr ⟨z, by simp, e⟩
    · exact .inr ⟨q, by simp [hq], e⟩
theorem dput_le {κ : Type} [DecidableEq κ] (kvs : List (κ × D)) (k : κ) (v : D) : (dput kvs k v).length ≤ kvs.length + 1 := by
  unfold dput
  split
  · simp
  · simp
theorem dputs_le : ∀ (ps kvs : List (NestedKey × D)), (dputs kvs ps).length ≤ kvs.length + ps.length
  | [], kvs => Nat.le_refl _
  | z :: ps, kvs => by
    have h1 := dputs_le ps (dput kvs z.1 z.2)
    have h2 := dput_le kvs z.1 z.2
    show (dputs (dput kvs z.1 z.2) ps).length ≤ _
    rw [List.length_cons]; omega
/-- dict(xs) of a list of pairs, the keys tuples; it is tracked -/
def dDictN : DRn := d1 fun d G Q => match der d G with
  | .nd .lst ds => (match prsN ds with
    | some ps => (∀ p ∈ ps, p.1.depth ≤ 8) ∧ ∀ a, G a = none → Q (.ref a) (up G a (.dN (dputs [] ps)))
    | none => False)
  | _ => False
theorem cd_dictN (hu : X.A.units + 64 < cLine) (hc : X.calm = true) : CallD X (.type "dict") dDictN := calld1 fun pins s σ H G x v d P I rx hr q1 t => by
  split at t
  · rename_i ds e
    split at t
    · rename_i ps ep
      obtain ⟨h8, t⟩ := t
      obtain ⟨a, vs, rfl, hH, r⟩ := der_lst hr q1 e
      cases (show v = Value.ref a from rx)
      obtain ⟨hz, its, n, rv, hl, hg⟩ := I.lstM hH
      obtain ⟨xs, Ts, p1, p2, p3, p4⟩ := prs_at I rfl ep r rv
      have hlen : xs.length = its.length := by rw [p2, List.length_map, p3]
      have items : PairItems s.heap its.toArray (fun j => Ts.getD j 0) (xs.map fun x => (Value.ref x.2.1, x.2.2)) := by
        refine ⟨by rw [List.size_toArray, List.length_map, hlen], fun j k v hj => ?_⟩
        rw [List.getElem?_map] at hj
        cases ex : xs[j]? with
        | none => rw [ex] at hj; cases hj
        | some x =>
          rw [ex] at hj; cases hj
          obtain ⟨T, eT, it⟩ := p4 j x ex
          have eT' : Ts.getD j 0 = T := by rw [List.getD_eq_getElem?_getD, eT]; rfl
          refine ⟨?_, .inl ?_⟩
          · show its.toArray[j]? = some (Value.ref (Ts.getD j 0))
            rw [eT', List.getElem?_toArray, p2, List.getElem?_map, eT]; rfl
          · show s.heap.IsTuple (Ts.getD j 0) _
            rw [eT']; exact it
      refine call_dict_pairsH (knd := nestedKind X.prog X.w) (ps := xs) (PairArg.list a its.toArray (fun j => Ts.getD j 0) (xs.map fun x => (Value.ref x.2.1, x.2.2))) (by show X.A.handled = none; exact I.ok.hd hc) (by show X.A.units + 1 + 1 + 8 < cLine; omega)
        ⟨⟨_, n, hg, rfl, rfl, rfl⟩, items⟩ ⟨by rw [List.length_map], fun i key v hi => ?_⟩ (fun h' hk y hy => ?_) (by rw [List.length_map, hlen, ← hl]; exact hz) fun h' tk hd' hk => ?_
      · have hi : (xs.map fun x => (Value.ref x.2.1, x.2.2))[i]? = some (key, v) := hi
        rw [List.getElem?_map] at hi
        cases ex : xs[i]? with
        | none => rw [ex] at hi; cases hi
        | some x => rw [ex] at hi; cases hi; exact ⟨x.1, x.2.1, rfl, rfl⟩
      · have ky := prAt_keys 8 p1 h8 y hy
        refine nestedKind_stays.stays (fun b o vs n e _ => hk b o (Nat.ne_of_lt (Heap.lt_size e)) (by simp) e) ⟨nested_is I ky.1 rfl, ky.2⟩
      · have fin := prAt_stores p1 .nil
        obtain ⟨f1, ws, f2, f3⟩ := prAt_split fin
        obtain ⟨o', es', ep', ho', hx', hdat', he', _, hn'⟩ := hd'
        have raw : h'.DictRaw s.heap.objs.size es' ep' := ⟨o', ho', hx', hdat'⟩
        have hp : H s.heap.objs.size = none := I.hok.fresh (Nat.le_refl _)
        have I' : Inv X pins σ (upd H s.heap.objs.size (rawO s.heap.objs.size es' ep')) { s with heap := h', toks := tk } :=
          I.laid (fun b o e => hk b o (by simp) e) (Nat.le_refl _) ⟨raw, ⟨o', ho'⟩, fun h1 h2 φ k => φ.at k⟩
        have x2 : Ext H G (upd H s.heap.objs.size (rawO s.heap.objs.size es' ep')) (up G s.heap.objs.size (.dN (dputs [] ps))) := .new hp
        refine ⟨.ref _, .ref _, _, _, I', rfl, t _ (hr.free hp), x2, hr.new hp ⟨ws, ?_, f3.ext hr x2⟩, by rw [VR]⟩
        refine ⟨storedAllH [] xs, es', ep', upd_same, notSys I, he', f1, by rw [← f1]; exact hn', ?_, fun y hy => ?_, f2⟩
        · rw [List.length_map]
          have := dputs_le ps []
          have := paired_len p1
          have h0 : ([] : List (NestedKey × D)).length = 0 := rfl
          omega
        · have ky := prAt_keys 8 fin (fun p hp => by
            rcases dputs_mem (k := p.1) ps [] hp with ⟨q, hq, _⟩ | ⟨q, hq, e⟩
            · cases hq
            · rw [← e]; exact h8 q hq) y hy
          exact ⟨ky.1.ext hr x2, ky.2⟩
    · exact t.elim
  · exact t.elim
end
end DL
namespace DL
open PySem PySem.Spec PyProof.Rows L2

/-! ### a def keeps its promise -/
def startD (N : List Str) (ds : List D) : DSt := ds.map some ++ List.replicate (N.length - ds.length) none
theorem SR.st {K : Ml} {H : Hp} {G : DHp} {N : List Str} {ds : List D} {vs : List V} (h : VRs K H G ds vs) : SR K H G (L2.start N vs) (startD N ds) := by
  refine ⟨?_, fun i d e => ?_⟩
  · unfold L2.start startD
    rw [List.length_append, List.length_append, List.length_map, List.length_map, List.length_replicate, List.length_replicate, h.length]
  · unfold startD at e
    by_cases hi : i < ds.length
    · rw [List.getElem?_append_left (by rw [List.length_map]; exact hi), List.getElem?_map] at e
      cases ed : ds[i]? with
      | none => rw [ed] at e; cases e
      | some d' =>
        rw [ed] at e
        simp only [Option.map_some, Option.some.injEq] at e
        subst e
        obtain ⟨v, ev, q⟩ := h.get ed
        refine ⟨v, ?_, q⟩
        unfold L2.start
        rw [List.getElem?_append_left (by rw [List.length_map, h.length]; exact hi), List.getElem?_map, ev]
        rfl
    · rw [List.getElem?_append_right (by rw [List.length_map]; omega), List.getElem?_replicate] at e
      split at e
      · cases e
      · cases e
section
variable {P : Program} {w : World} {K : PySem.W.Frag} {mg : Str → Option Value} {base : Heap}
theorem fn_d {x qual : Str} {st : Stmt} {f : Addr} {fd : FuncData} {N ps : List Str} {k : Nat} {sp : DRn} (F : Fun K x qual st f fd) (S : FnScope N ps (defScope st)) (len : ∀ ds G Q, sp ds G Q → ds.length = ps.length) {T : DTS}
    (hp : ∀ (cdv : Value) (A : Around) (outer : List Env) (s : Shared) (H : Hp) (E : XK), Room k (A.deeper (envOfC qual (defScope st) s.heap.objs.size f cdv)) → PSsD (cxOf CX0 P w K mg base N qual (defScope st) f cdv A outer s H E).nox (defBody st) T)
    (hs : ∀ ds G Q, sp ds G Q → T { nx := fun _ G' => Q .non G', rt := Q } (startD N ds) G) : FnD P w K mg base (k + 1) f fd ps sp := by
  refine F.ok S (fun vs H Q E h => ?_) (fun cdv A outer s H vs Q E hr h => ?_)
  · obtain ⟨ds, G, Q', q, _, t, _⟩ := h
    rw [q.length]
    exact len _ _ _ t
  · obtain ⟨ds, G, Q', q, hr', t, k'⟩ := h
    refine ⟨liftS ⟨K, w⟩ T, hp cdv A outer s H E hr, startD N ds, G, _, .st q, hr', hs ds G Q' t, ?_⟩
    exact ⟨fun η G' σ H' p x _ r => k' _ _ _ _ p x r (by rw [VR]), fun d G' v H' p x r q => k' _ _ _ _ p x r q, fun _ _ _ _ p => p.elim, fun _ _ _ _ p => p.elim⟩
/-- a promise: the arguments, then what the body leads to -/
def spLaw : DRn := d1 fun d G Q => ∃ ns : List Int, d = .nd .scr (ns.map .int) ∧ ns.length ≤ 63 ∧ (∀ a, G a = none) ∧ ∀ G', Q (.bl true) G'
theorem walk_d {l : PySem.W.OpenLaw} {k : Nat} {q : Program} {loose : List Str} {XP : (Str → Option Value) → Heap → Prop} {YP : World → Heap → Prop} {d : DefRec} {K : Params → PySem.W.Frag} {x : Str}
    (hn : l.most = some 63) (hdf : d.params.defaults = []) (hr : Room k callerA)
    (hY : ∀ (w : World) (h : Heap), YP w h → (K w.params).In h)
    (F : ∀ (w : World) (mg : Str → Option Value) (fa : Addr) (h : Heap), (K w.params).In h → h.Ns mainGlobals mg → mg d.name = some (.ref fa) →
      ∃ fd : FuncData, (∀ (s : Shared) (u : Value), BindsTo s fd ⟨[u], []⟩ [(x, u)]) ∧
        ∀ base : Heap, (K w.params).In base → base.Ns mainGlobals mg → FnD l.prog w (K w.params) mg base k fa fd [x] spLaw) :
    PySem.W.WalkO q loose XP YP l.row.toRowW d [] (fun f vs => PySem.call f vs) :=
  L2.walk_of (K := K) (CX := fun _ => CX0) (sp := fun w vs H Q _ => liftN ⟨K w.params, w⟩ spLaw vs H Q) hn (by decide) hdf hr hY F (fun w H a ns h1 h2 h3 => by
    have hs : VR ⟨K w.params, w⟩ H (fun _ => none) (.nd .scr (ns.map .int)) (.ref a) := by
      rw [VR]
      refine ⟨a, _, rfl, ?_, .of_ints ns⟩
      rcases h3 with (h3 | ⟨o, h3⟩) | h3
      · rcases h2 a with z | ⟨ob, xs, z⟩
        · rw [h3] at z; cases z
        · rw [h3] at z; cases z
      · exact .inl ⟨o, h3⟩
      · exact .inr h3
    exact ⟨[.nd .scr (ns.map .int)], fun _ => none, fun v _ => v = .bl true, .cons hs .nil, (fun a o e => by cases e), ⟨ns, rfl, h1, fun _ => rfl, fun _ => rfl⟩, fun d G' v H' p _ _ q => by
      subst p
      rw [VR] at q
      exact q⟩) fun _ _ _ _ _ z => z
end
theorem Room.u65 {k : Nat} {A : Around} (r : Room k A) : A.units + 65 < cLine := by have := r.un; omega
end DL
namespace DL
open PySem PySem.Spec PyProof.Rows L2

/-! ### the keys of a dict, whatever way it is held -/
def keysD (d : D) (G : DHp) : Option (List D) := match dicN d G with
  | some kvs => some (kvs.map fun p => nkD p.1)
  | none => match dicK d G with
    | some kvs => some (kvs.map fun p => kD p.1)
    | none => none
section
variable {X : Cx}
mutual
theorem key_reads {pins : List (Addr × Obj)} {σ : L2.St} {H : Hp} {s : Shared} (I : Inv X pins σ H s) : ∀ {k : NestedKey} {v : V} {u : Value}, KeyAt X.ml H k v → RelV v u → Reads s.heap u (py (nkD k)) []
  | .none, _, _, h, r => by rw [KeyAt] at h; subst h; cases (show _ = Value.none from r); rw [nkD, py]; exact .none
  | .num i, _, _, h, r => by rw [KeyAt] at h; subst h; obtain ⟨t, rfl⟩ := r; rw [nkD, py]; exact .int i t
  | .text x, _, _, h, r => by rw [KeyAt] at h; subst h; obtain ⟨t, rfl⟩ := r; rw [nkD, py]; exact .str x t
  | .tup ks, _, _, h, r => by
    rw [KeyAt] at h
    obtain ⟨a, vs, rfl, q, t⟩ := h
    cases r
    obtain ⟨its, rv, tt, hz⟩ := I.tuple q
    obtain ⟨o, ho, hc, n, hd⟩ := tt
    rw [nkD, py]
    exact .tuple ho hc hd (by simpa using keys_reads I t rv)
theorem keys_reads {pins : List (Addr × Obj)} {σ : L2.St} {H : Hp} {s : Shared} (I : Inv X pins σ H s) : ∀ {k : List NestedKey} {v : List V} {u : List Value}, KeysAt X.ml H k v → Vals v u → ReadsAll s.heap u (pys (nkDs k)) []
  | [], _, _, h, r => by rw [KeysAt] at h; subst h; cases r; rw [nkDs, pys]; exact .nil
  | k :: ks, _, _, h, r => by
    rw [KeysAt] at h
    obtain ⟨v, vs, rfl, q, t⟩ := h
    cases r with
    | cons r1 r2 =>
      rw [nkDs, pys]
      exact .cons (as := []) (bs := []) (key_reads I q r1) (keys_reads I t r2)
end
/-- what is known of the keys -/
theorem keysD_at {pins : List (Addr × Obj)} {σ : L2.St} {H : Hp} {G : DHp} {s : Shared} {d : D} {v : V} {ks : List D} (I : Inv X pins σ H s) (hr : HR X.ml H G) (q : VR X.ml H G d v) (e : keysD d G = some ks) :
    ∃ a es ep vs, v = .ref a ∧ (a == sysModules) = false ∧ s.heap.DictRaw a es ep ∧ es.size ≤ sizeLine ∧ Vals vs (es.toList.map (·.key)) ∧ VRs X.ml H G ks vs ∧ PySem.W.EachIs (fun u d => Reads s.heap u (py d) []) (es.toList.map (·.key)) ks := by
  unfold keysD at e
  split at e
  · rename_i kvs e1
    cases e
    obtain ⟨a, ws, rfl, dn, vr⟩ := dicN_at hr q e1
    obtain ⟨xs, es, ep, h1, h2, h3, h4, h5, h6, h7, h8, h9⟩ := DnAt.of I dn
    have hm : es.toList.map (·.key) = xs.map fun x => Value.ref x.2.1 := by
      rw [h3, List.map_map]
      exact List.map_congr_left fun x _ => rfl
    have hk : kvs.map (fun p => nkD p.1) = xs.map fun x => nkD x.1 := by
      rw [show (fun p : NestedKey × D => nkD p.1) = nkD ∘ (·.1) from rfl, ← List.map_map, ← h6, List.map_map]; rfl
    have hsz : es.size ≤ sizeLine := by
      have := congrArg List.length h3
      rw [List.length_map, Array.length_toList] at this
      have h62 := congrArg List.length h6
      rw [List.length_map] at h62
      omega
    refine ⟨a, es, ep, xs.map fun x => V.ref x.2.1, rfl, h5, h2, hsz, ?_, ?_, ?_⟩
    · rw [hm]
      have : ∀ zs : List (NestedKey × Addr × Value), Vals (zs.map fun x => V.ref x.2.1) (zs.map fun x => Value.ref x.2.1) := fun zs => by
        induction zs with
        | nil => exact .nil
        | cons z zs ih => exact .cons rfl ih
      exact this xs
    · rw [hk]
      have : ∀ zs : List (NestedKey × Addr × Value), (∀ x ∈ zs, KeyAt X.ml H x.1 (.ref x.2.1) ∧ x.1.depth ≤ 8) → VRs X.ml H G (zs.map fun x => nkD x.1) (zs.map fun z => V.ref z.2.1) := by
        intro zs
        induction zs with
        | nil => intro _; exact .nil
        | cons z zs ih => intro h; exact .cons (nkD_vr (h z (by simp)).1) (ih fun x hx => h x (by simp [hx]))
      exact this xs h8
    · rw [hk, hm]
      have : ∀ zs : List (NestedKey × Addr × Value), (∀ x ∈ zs, KeyAt X.ml H x.1 (.ref x.2.1) ∧ x.1.depth ≤ 8) → PySem.W.EachIs (fun u d => Reads s.heap u (py d) []) (zs.map fun x => Value.ref x.2.1) (zs.map fun x => nkD x.1) := by
        intro zs
        induction zs with
        | nil => intro _; exact .nil
        | cons z zs ih => intro h; exact .cons (key_reads I (h z (by simp)).1 rfl) (ih fun x hx => h x (by simp [hx]))
      exact this xs h8
  · split at e
    · rename_i kvs e1
      cases e
      obtain ⟨a, ws, rfl, rd, hks, vr⟩ := dicK_at hr q e1
      obtain ⟨z, hd, vs, rel, dd⟩ := dk_rd I.hok rd
      obtain ⟨es, ep, raw, hsz, hat⟩ := dd.raw
      have hl : ws.length = vs.length := rel.length
      have hk : kvs.map (fun p => kD p.1) = (ws.map (·.1)).map kD := by
        rw [hks, List.map_map]; rfl
      have hkey : ws.map (·.1) = vs.map (·.1) := rel.keys
      have each : ∀ (F : Value → Key → Prop), (∀ k u, (mixKind X.prog X.w).is k u = true → F u k) → PySem.W.EachIs F (es.toList.map (·.key)) (vs.map (·.1)) := fun F hF => by
        have go : ∀ (l : List DictEntry) (m : List (Key × Value)), l.length = m.length → (∀ i (hi : i < l.length) k v, m[i]? = some (k, v) → (mixKind X.prog X.w).is k l[i].key = true) → PySem.W.EachIs F (l.map (·.key)) (m.map (·.1)) := by
          intro l
          induction l with
          | nil =>
            intro m h1 h2
            cases m with
            | nil => exact .nil
            | cons _ _ => simp at h1
          | cons x l ih =>
            intro m h1 h2
            cases m with
            | nil => simp at h1
            | cons y m =>
              obtain ⟨k, v⟩ := y
              refine .cons (hF _ _ (h2 0 (by simp) k v rfl)) (ih m (by simpa using h1) fun i hi k' v' e => ?_)
              have := h2 (i + 1) (by simpa using hi) k' v' (by simpa using e)
              simpa using this
        refine go _ _ (by rw [Array.length_toList]; exact hsz) fun i hi k v e => ?_
        have := (hat i (by simpa using hi) k v e).1
        simpa using this
      refine ⟨a, es, ep, (ws.map (·.1)).map kV, rfl, hd, raw, by rw [hsz, ← hl]; exact z, ?_, ?_, ?_⟩
      · rw [hkey]
        have := each (fun u k => RelV (kV k) u) fun k u h => mix_rel h
        have go : ∀ {us : List Value} {ks : List Key}, PySem.W.EachIs (fun u k => RelV (kV k) u) us ks → Vals (ks.map kV) us := by
          intro us ks h
          induction h with
          | nil => exact .nil
          | cons r _ ih => exact .cons r ih
        exact go this
      · rw [hk]
        exact kVs_vr _
      · rw [hk, hkey]
        have := each (fun u k => Reads s.heap u (py (kD k)) []) fun k u h => by
          rcases keyIs_shape (show keyIs k u = true from h) with ⟨i, t, rfl, rfl⟩ | ⟨x, t, rfl, rfl⟩
          · show Reads _ _ (py (.int i)) []; rw [py]; exact .int i t
          · show Reads _ _ (py (.str x)) []; rw [py]; exact .str x t
        have go : ∀ {us : List Value} {ks : List Key}, PySem.W.EachIs (fun u k => Reads s.heap u (py (kD k)) []) us ks → PySem.W.EachIs (fun u d => Reads s.heap u (py d) []) us (ks.map kD) := by
          intro us ks h
          induction h with
          | nil => exact .nil
          | cons r _ ih => exact .cons r ih
        exact go this
    · cases e
theorem items_keys {es : Array DictEntry} {acc : Array Value} (h : ItemsOf (fun i v => ∃ hi : i < es.size, v = es[i].key) acc es.size) : acc.toList = es.toList.map (·.key) := by
  refine List.ext_getElem? fun i => ?_
  rw [Array.getElem?_toList, List.getElem?_map, Array.getElem?_toList]
  by_cases hi : i < es.size
  · have hi' : i < acc.size := by rw [h.1]; exact hi
    obtain ⟨_, e⟩ := h.2 i acc[i] (Array.getElem?_eq_getElem hi')
    rw [Array.getElem?_eq_getElem hi', Array.getElem?_eq_getElem hi, e]
    rfl
  · rw [Array.getElem?_eq_none (by rw [h.1]; omega), Array.getElem?_eq_none (by omega)]
    rfl
/-- list(d): tracked -/
def dListD : DRn := d1 fun d G Q => match keysD d G with
  | some ks => ∀ p, G p = none → Q (.ref p) (up G p (.lst ks))
  | none => False
theorem cd_listD (hc : X.calm = true) : CallD X (.type "list") dListD := calld1 fun pins s σ H G x v d P I rx hr q1 t => by
  split at t
  · rename_i ks e
    obtain ⟨a, es, ep, vs, rfl, hsys, raw, hsz, rv, qs, _⟩ := keysD_at I hr q1 e
    cases (show v = Value.ref a from rx)
    refine PySem.W.kdl_call (PySem.KdlSrc.rawDict hsys) (I.ok.hd hc) raw hsz fun h' tk acc c hk hS hacc => ?_
    have hp : H s.heap.objs.size = none := I.hok.fresh (Nat.le_refl _)
    have e2 := items_keys hacc
    have x2 : Ext H G (upd H s.heap.objs.size (.lst vs)) (up G s.heap.objs.size (.lst ks)) := .new hp
    have I' : Inv X pins σ (upd H s.heap.objs.size (.lst vs)) { s with heap := h', toks := tk } :=
      I.laid hk (Nat.le_refl _) ⟨by rw [rv.length, List.length_map, Array.length_toList]; exact hsz, acc.toList, c, by rw [e2]; exact rv, by rw [Array.toArray_toList]; exact hS⟩
    exact ⟨.ref _, .ref _, _, _, I', rfl, t _ (hr.free hp), x2, hr.new hp ⟨vs, upd_same, qs.ext hr x2⟩, by rw [VR]⟩
  · exact t.elim
/-- sorted(d): tracked -/
def dSortedD : DRn := d1 fun d G Q => match keysD d G with
  | some ks => (PySem.W.AllAlike (ks.map py) ∧ PySem.W.Sortable (ks.map py) ∧ ∀ d ∈ ks, (py d).depth ≤ 60) ∧ ∀ p, G p = none → Q (.ref p) (up G p (.lst (srt ks)))
  | none => False
theorem cd_sortedD (hu : X.A.units + 64 < cLine) (hc : X.calm = true) : CallD X (.builtin "sorted") dSortedD := calld1 fun pins s σ H G x v d P I rx hr q1 t => by
  split at t
  · rename_i ks e
    obtain ⟨⟨p2, p3, p4⟩, t⟩ := t
    obtain ⟨a, es, ep, vs, rfl, hsys, raw, hsz, rv, qs, rd⟩ := keysD_at I hr q1 e
    cases (show v = Value.ref a from rx)
    refine Calls.call_function_entry PyProof.Rows.kind_sorted PyProof.Rows.plain_sorted PyProof.Rows.entry_sorted (PyProof.Rows.args_sorted1 _) ?_
    unfold Builtin.«sorted»
    refine wpAny_bind (m := checkCount "sorted" 1 1 _) (wpAny_pure ?_)
    refine wpAny_bind (PySem.W.kdu_collect (A := X.A.in1) (PySem.KdlSrc.rawDict hsys) (I.ok.hd hc) raw hsz fun h' tk acc hk hacc => ?_)
    have e2 := items_keys hacc
    have rva : Vals vs acc.toList := by rw [e2]; exact rv
    have hal : acc.toList.length = ks.length := by rw [← rva.length, qs.length]
    have I1 : Inv X pins σ H { s with heap := h', toks := tk } := I.kept hk
    have hlen : acc.toList.length ≤ sizeLine := by rw [e2, List.length_map, Array.length_toList]; exact hsz
    refine wpAny_bind (wpAny_newList ?_ hlen)
    have hoL : (h'.push (seqObj "list" acc.toList.toArray 0)).get? h'.objs.size = some (seqObj "list" acc.toList.toArray 0) := Heap.get?_push_size _ rfl
    show wpAny _ _ _ _ _ { s with heap := h'.push (seqObj "list" acc.toList.toArray 0), toks := tk }
    have er : PySem.W.EachIs (fun v b => ∃ as, Reads (h'.push (seqObj "list" acc.toList.toArray 0)) v (py b) as ∧ h'.objs.size ∉ as) acc.toList ks := by
      rw [e2]
      exact rd.mono fun u b r => ⟨[], PyProof.Rows.Reads.keeps (fun b o q => Heap.get?_push_of_some _ (hk b o q)) r, by simp⟩
    refine wpAny_bind (wpAny_holding (PySem.W.list_sort_data (s := { s with heap := h'.push (seqObj "list" acc.toList.toArray 0), toks := tk }) (R := fun u d => ∃ v, RelV v u ∧ VR X.ml H G d v) (enc := py) (bs := ks) hoL (each_vr qs rva) er p2 p3 (by rw [← hal]; exact hlen) (fun b hb => by have := p4 b hb; show X.A.units + 1 + 1 + _ < _; omega) fun out ho eo => ?_))
    obtain ⟨ws, rw', qs'⟩ := each_back eo
    obtain ⟨e', he'⟩ := PyProof.Rows.sortedHeap_at (vs := acc.toList) (out := List.toArray out) hoL
    have hp : H h'.objs.size = none := I1.hok.fresh (Nat.le_refl _)
    have x2 : Ext H G (upd H h'.objs.size (.lst ws)) (up G h'.objs.size (.lst (srt ks))) := .new hp
    refine wpAny_pure ⟨_, rfl, .ref h'.objs.size, .ref h'.objs.size, upd H h'.objs.size (.lst ws), _, I1.laid (t' := tk) (fun b u e => ?_) (Nat.le_refl _)
      (show ObjOk X.prog X.w _ _ _ (.lst ws) from ⟨by rw [rw'.length, ho, ← hal]; exact hlen, out, e', rw', he'⟩), rfl, t _ (hr.free hp), x2, hr.new hp ⟨ws, upd_same, qs'.ext hr x2⟩, by rw [VR]⟩
    have hb : b < h'.objs.size := Heap.lt_size e
    rw [PyProof.Rows.sortedHeap_old (Nat.ne_of_lt hb) (by rw [size_push']; exact Nat.lt_succ_of_lt hb)]
    exact Heap.get?_push_of_some _ e
  · exact t.elim
end
end DL
namespace DL
open PySem PySem.Spec PyProof.Rows L2

/-! ### short names of operators -/
abbrev dSub : DR2 := i2 (fun _ _ => True) fun i j => .int (i - j)
abbrev dMul : DR2 := i2 CMul fun i j => .int (i * j)
abbrev dFdiv : DR2 := i2 CDiv fun i j => .int (i / j)
abbrev dMod : DR2 := i2 (fun _ j => 0 < j) fun i j => .int (i % j)
abbrev dPow : DR2 := i2 CPow fun i j => .int (i ^ j.toNat)
/-! ### what is meant -/
def eR (xs : List Int) : D := .nd .tup (xs.map .int)
def e2 (p : Int × Int) : D := .nd .tup [.int p.1, .int p.2]
def e3 (p : Int × Int × Int) : D := .nd .tup [.int p.1, .int p.2.1, .int p.2.2]
def eL {α : Type} (f : α → D) (xs : List α) : D := .nd .lst (xs.map f)
def eT {α : Type} (f : α → D) (xs : List α) : D := .nd .tup (xs.map f)
mutual
def clean : D → Bool
  | .non => true
  | .int _ => true
  | .nd .tup ds => cleans ds
  | .nd .lst ds => cleans ds
  | _ => false
def cleans : List D → Bool
  | [] => true
  | d :: ds => clean d && cleans ds
end
mutual
theorem clean_plain : ∀ {d : D}, clean d = true → plainD d = true
  | .non, _ => rfl
  | .int _, _ => rfl
  | .nd .tup ds, h => by rw [plainD]; rw [clean] at h; exact cleans_plain h
  | .nd .lst ds, h => by rw [plainD]; rw [clean] at h; exact cleans_plain h
  | .bl _, h => by simp [clean] at h
  | .str _, h => by simp [clean] at h
  | .ty _, h => by simp [clean] at h
  | .ref _, h => by simp [clean] at h
  | .nd .scr _, h => by simp [clean] at h
  | .nd (.ins _ _) _, h => by simp [clean] at h
  | .nd (.dK _) _, h => by simp [clean] at h
  | .nd (.dN _) _, h => by simp [clean] at h
theorem cleans_plain : ∀ {ds : List D}, cleans ds = true → plainDs ds = true
  | [], _ => rfl
  | d :: ds, h => by
    rw [cleans, Bool.and_eq_true] at h
    rw [plainDs, clean_plain h.1, cleans_plain h.2]; rfl
end
mutual
theorem clean_lay : ∀ {d : D}, clean d = true → PyData.canLay0 (py d) = true
  | .non, _ => by rw [py, PyData.canLay0]
  | .int _, _ => by rw [py, PyData.canLay0]
  | .nd .tup ds, h => by rw [py, PyData.canLay0]; rw [clean] at h; exact cleans_lay h
  | .nd .lst ds, h => by rw [py, PyData.canLay0]; rw [clean] at h; exact cleans_lay h
  | .bl _, h => by simp [clean] at h
  | .str _, h => by simp [clean] at h
  | .ty _, h => by simp [clean] at h
  | .ref _, h => by simp [clean] at h
  | .nd .scr _, h => by simp [clean] at h
  | .nd (.ins _ _) _, h => by simp [clean] at h
  | .nd (.dK _) _, h => by simp [clean] at h
  | .nd (.dN _) _, h => by simp [clean] at h
theorem cleans_lay : ∀ {ds : List D}, cleans ds = true → PyData.canLayAll0 (pys ds) = true
  | [], _ => by rw [pys, PyData.canLayAll0]
  | d :: ds, h => by
    rw [cleans, Bool.and_eq_true] at h
    rw [pys, PyData.canLayAll0, clean_lay h.1, cleans_lay h.2]; rfl
end
mutual
theorem clean_eq : ∀ {d e : D}, clean d = true → clean e = true → (PyData.eqv (py d) (py e) = true ↔ d = e)
  | .non, .non, _, _ => by simp [py, PyData.eqv]
  | .non, .int _, _, _ => by simp [py, PyData.eqv]
  | .non, .nd .tup _, _, _ => by simp [py, PyData.eqv]
  | .non, .nd .lst _, _, _ => by simp [py, PyData.eqv]
  | .int _, .non, _, _ => by simp [py, PyData.eqv]
  | .int i, .int j, _, _ => by simp [py, PyData.eqv]
  | .int _, .nd .tup _, _, _ => by simp [py, PyData.eqv]
  | .int _, .nd .lst _, _, _ => by simp [py, PyData.eqv]
  | .nd .tup _, .non, _, _ => by simp [py, PyData.eqv]
  | .nd .tup _, .int _, _, _ => by simp [py, PyData.eqv]
  | .nd .tup ds, .nd .tup es, h1, h2 => by
    rw [clean] at h1 h2
    rw [py, py, PyData.eqv, cleans_eq h1 h2]
    simp
  | .nd .tup _, .nd .lst _, _, _ => by simp [py, PyData.eqv]
  | .nd .lst _, .non, _, _ => by simp [py, PyData.eqv]
  | .nd .lst _, .int _, _, _ => by simp [py, PyData.eqv]
  | .nd .lst _, .nd .tup _, _, _ => by simp [py, PyData.eqv]
  | .nd .lst ds, .nd .lst es, h1, h2 => by
    rw [clean] at h1 h2
    rw [py, py, PyData.eqv, cleans_eq h1 h2]
    simp
  | .bl _, _, h, _ => by simp [clean] at h
  | .str _, _, h, _ => by simp [clean] at h
  | .ty _, _, h, _ => by simp [clean] at h
  | .ref _, _, h, _ => by simp [clean] at h
  | .nd .scr _, _, h, _ => by simp [clean] at h
  | .nd (.ins _ _) _, _, h, _ => by simp [clean] at h
  | .nd (.dK _) _, _, h, _ => by simp [clean] at h
  | .nd (.dN _) _, _, h, _ => by simp [clean] at h
  | _, .bl _, _, h => by simp [clean] at h
  | _, .str _, _, h => by simp [clean] at h
  | _, .ty _, _, h => by simp [clean] at h
  | _, .ref _, _, h => by simp [clean] at h
  | _, .nd .scr _, _, h => by simp [clean] at h
  | _, .nd (.ins _ _) _, _, h => by simp [clean] at h
  | _, .nd (.dK _) _, _, h => by simp [clean] at h
  | _, .nd (.dN _) _, _, h => by simp [clean] at h
theorem cleans_eq : ∀ {ds es : List D}, cleans ds = true → cleans es = true → (PyData.eqvAll (pys ds) (pys es) = true ↔ ds = es)
  | [], [], _, _ => by simp [pys, PyData.eqvAll]
  | [], _ :: _, _, _ => by simp [pys, PyData.eqvAll]
  | _ :: _, [], _, _ => by simp [pys, PyData.eqvAll]
  | d :: ds, e :: es, h1, h2 => by
    rw [cleans, Bool.and_eq_true] at h1 h2
    rw [pys, pys, PyData.eqvAll, Bool.and_eq_true, clean_eq h1.1 h2.1, cleans_eq h1.2 h2.2]
    simp
end
theorem cleans_all : ∀ ds : List D, cleans ds = ds.all clean
  | [] => rfl
  | d :: ds => by rw [cleans, cleans_all ds]; rfl
theorem cleans_map {α : Type} {f : α → D} (h : ∀ a, clean (f a) = true) (xs : List α) : cleans (xs.map f) = true := by
  rw [cleans_all, List.all_map, List.all_eq_true]
  intro x _; exact h x
theorem depthAll_le {B : Nat} : ∀ {ds : List D}, (∀ d ∈ ds, (py d).depth ≤ B) → PyData.depthAll (pys ds) ≤ B
  | [], _ => by rw [pys, PyData.depthAll]; exact Nat.zero_le _
  | d :: ds, h => by
    rw [pys, PyData.depthAll]
    have h1 := h d (by simp)
    have h2 := depthAll_le (B := B) (ds := ds) fun e he => h e (by simp [he])
    omega
theorem depth_lst {B : Nat} {ds : List D} (h : ∀ d ∈ ds, (py d).depth ≤ B) : (py (.nd .lst ds)).depth ≤ B + 1 := by
  rw [py, PyData.depth]; have := depthAll_le h; omega
theorem depth_tup {B : Nat} {ds : List D} (h : ∀ d ∈ ds, (py d).depth ≤ B) : (py (.nd .tup ds)).depth ≤ B + 1 := by
  rw [py, PyData.depth]; have := depthAll_le h; omega
theorem depth_int (i : Int) : (py (.int i)).depth = 0 := by rw [py, PyData.depth]
theorem shaped_of {d : D} (h : clean d = true) (h2 : (py d).depth ≤ 64) : SeqAt.shaped (py d) = true := by
  unfold SeqAt.shaped
  rw [clean_lay h, decide_eq_true h2]; rfl
theorem clean_int (i : Int) : clean (.int i) = true := rfl
theorem clean_e2 (p : Int × Int) : clean (e2 p) = true := rfl
theorem clean_e3 (p : Int × Int × Int) : clean (e3 p) = true := rfl
theorem clean_eL {α : Type} {f : α → D} (h : ∀ a, clean (f a) = true) (xs : List α) : clean (eL f xs) = true := by
  unfold eL; rw [clean]; exact cleans_map h xs
theorem clean_eT {α : Type} {f : α → D} (h : ∀ a, clean (f a) = true) (xs : List α) : clean (eT f xs) = true := by
  unfold eT; rw [clean]; exact cleans_map h xs
theorem depth_e2 (p : Int × Int) : (py (e2 p)).depth ≤ 1 := depth_tup (B := 0) fun d hd => by
  simp at hd; rcases hd with rfl | rfl <;> exact Nat.le_of_eq (depth_int _)
theorem depth_e3 (p : Int × Int × Int) : (py (e3 p)).depth ≤ 1 := depth_tup (B := 0) fun d hd => by
  simp at hd; rcases hd with rfl | rfl | rfl <;> exact Nat.le_of_eq (depth_int _)
theorem depth_eL {α : Type} {f : α → D} {B : Nat} (h : ∀ a, (py (f a)).depth ≤ B) (xs : List α) : (py (eL f xs)).depth ≤ B + 1 := depth_lst fun d hd => by
  obtain ⟨a, _, rfl⟩ := List.mem_map.mp hd; exact h a
theorem depth_eT {α : Type} {f : α → D} {B : Nat} (h : ∀ a, (py (f a)).depth ≤ B) (xs : List α) : (py (eT f xs)).depth ≤ B + 1 := depth_tup fun d hd => by
  obtain ⟨a, _, rfl⟩ := List.mem_map.mp hd; exact h a
theorem e2_inj {a b : Int × Int} : e2 a = e2 b ↔ a = b := by
  constructor
  · intro h; obtain ⟨a1, a2⟩ := a; obtain ⟨b1, b2⟩ := b
    simp [e2] at h; simp [h]
  · intro h; rw [h]
theorem e3_inj {a b : Int × Int × Int} : e3 a = e3 b ↔ a = b := by
  constructor
  · intro h; obtain ⟨a1, a2, a3⟩ := a; obtain ⟨b1, b2, b3⟩ := b
    simp [e3] at h; simp [h]
  · intro h; rw [h]
theorem map_inj {α : Type} {f : α → D} (h : ∀ {a b}, f a = f b ↔ a = b) : ∀ {xs ys : List α}, xs.map f = ys.map f ↔ xs = ys
  | [], [] => by simp
  | [], _ :: _ => by simp
  | _ :: _, [] => by simp
  | x :: xs, y :: ys => by simp [h, map_inj h (xs := xs) (ys := ys)]
theorem eL_inj {α : Type} {f : α → D} (h : ∀ {a b}, f a = f b ↔ a = b) {xs ys : List α} : eL f xs = eL f ys ↔ xs = ys := by
  unfold eL
  constructor
  · intro e; exact (map_inj h).mp (D.nd.inj e).2
  · intro e; rw [e]
theorem eT_inj {α : Type} {f : α → D} (h : ∀ {a b}, f a = f b ↔ a = b) {xs ys : List α} : eT f xs = eT f ys ↔ xs = ys := by
  unfold eT
  constructor
  · intro e; exact (map_inj h).mp (D.nd.inj e).2
  · intro e; rw [e]
/-! ### equality, membership, run -/
theorem run_eq {d e : D} {G : DHp} {Q : DVK} (h1 : clean (der d G) = true) (h2 : clean (der e G) = true) (d1 : (py (der d G)).depth ≤ 64) (d2 : (py (der e G)).depth ≤ 64) (b : Bool) (hb : b = true ↔ der d G = der e G) (h : Q (.bl b) G) : dEq d e G Q := by
  refine ⟨⟨clean_plain h1, clean_plain h2, shaped_of h1 d1, shaped_of h2 d2⟩, ?_⟩
  have : PyData.eqv (py (der d G)) (py (der e G)) = b := by
    rw [Bool.eq_iff_iff, clean_eq h1 h2]; exact hb.symm
  rw [this]; exact h
theorem run_ne {d e : D} {G : DHp} {Q : DVK} (h1 : clean (der d G) = true) (h2 : clean (der e G) = true) (d1 : (py (der d G)).depth ≤ 64) (d2 : (py (der e G)).depth ≤ 64) (b : Bool) (hb : b = true ↔ der d G ≠ der e G) (h : Q (.bl b) G) : dNe d e G Q := by
  refine ⟨⟨clean_plain h1, clean_plain h2, shaped_of h1 d1, shaped_of h2 d2⟩, ?_⟩
  have : (!PyData.eqv (py (der d G)) (py (der e G))) = b := by
    rw [Bool.eq_iff_iff, Bool.not_eq_true', hb, ← Bool.not_eq_true, clean_eq h1 h2]
  rw [this]; exact h
theorem any_clean {x : D} (hx : clean x = true) : ∀ {ds : List D}, cleans ds = true → (((pys ds).any fun z => PyData.eqv z (py x)) = true ↔ x ∈ ds)
  | [], _ => by simp [pys]
  | d :: ds, h => by
    rw [cleans, Bool.and_eq_true] at h
    rw [pys, List.any_cons, Bool.or_eq_true, clean_eq h.1 hx, any_clean hx h.2, List.mem_cons]
    constructor
    · rintro (h | h)
      · exact .inl h.symm
      · exact .inr h
    · rintro (h | h)
      · exact .inl h.symm
      · exact .inr h
theorem run_in {neg : Bool} {x y : D} {ds : List D} {G : DHp} {Q : DVK} (hy : der y G = .nd .lst ds ∨ der y G = .nd .tup ds) (hx : clean x = true) (hs : cleans ds = true) (dx : (py x).depth ≤ 64) (b : Bool) (hb : b = true ↔ x ∈ ds) (h : Q (.bl (neg != b)) G) : dIn neg x y G Q := by
  have e : ((pys ds).any fun z => PyData.eqv z (py x)) = b := by rw [Bool.eq_iff_iff, any_clean hx hs]; exact hb.symm
  unfold dIn
  rcases hy with hy | hy
  · rw [hy]
    exact ⟨⟨clean_plain hx, cleans_plain hs, shaped_of hx dx, cleans_lay hs⟩, by rw [e]; exact h⟩
  · rw [hy]
    exact ⟨⟨clean_plain hx, cleans_plain hs, shaped_of hx dx, cleans_lay hs⟩, by rw [e]; exact h⟩
/-- order of ints -/
theorem run_ord {g : PyData → PyData → Bool} {i j : Int} {G : DHp} {Q : DVK} (h : Q (.bl (g (.int i) (.int j))) G) : dOrd g (.int i) (.int j) G Q :=
  ⟨⟨rfl, rfl, by rw [py, py]; simp [PySem.W.alike], by rw [py]; exact (nomatch ·), by rw [depth_int]; exact Nat.zero_le _⟩, by rw [py, py]; exact h⟩
theorem lt_ii {i j : Int} : PySem.W.dataLt (.int i) (.int j) = decide (i < j) := PySem.W.dataLt_int i j
theorem run_ordE {g : PyData → PyData → Bool} {i j : Int} {G : DHp} {Q : DVK} : dOrd g (.int i) (.int j) G Q = Q (.bl (g (.int i) (.int j))) G := propext ⟨fun h => by
  have h := h.2
  rwa [py, py] at h, run_ord⟩
theorem not_lt_dec {i j : Int} : (!decide (j < i)) = decide (i ≤ j) := by rw [← decide_not]; exact decide_eq_decide.mpr (by omega)
theorem run_lt {i j : Int} {G : DHp} {Q : DVK} : dLt (.int i) (.int j) G Q = Q (.bl (decide (i < j))) G := by
  show dOrd _ _ _ _ _ = _
  rw [run_ordE, lt_ii]
theorem run_le {i j : Int} {G : DHp} {Q : DVK} : dLe (.int i) (.int j) G Q = Q (.bl (decide (i ≤ j))) G := by
  show dOrd _ _ _ _ _ = _
  rw [run_ordE]
  show Q (.bl (!PySem.W.dataLt (.int j) (.int i))) G = _
  rw [lt_ii, not_lt_dec]
theorem run_gt {i j : Int} {G : DHp} {Q : DVK} : dGt (.int i) (.int j) G Q = Q (.bl (decide (j < i))) G := by
  show dOrd _ _ _ _ _ = _
  rw [run_ordE]
  show Q (.bl (PySem.W.dataLt (.int j) (.int i))) G = _
  rw [lt_ii]
theorem run_ge {i j : Int} {G : DHp} {Q : DVK} : dGe (.int i) (.int j) G Q = Q (.bl (decide (j ≤ i))) G := by
  show dOrd _ _ _ _ _ = _
  rw [run_ordE]
  show Q (.bl (!PySem.W.dataLt (.int i) (.int j))) G = _
  rw [lt_ii, not_lt_dec]
theorem run_eqi {i j : Int} {G : DHp} {Q : DVK} : dEq (.int i) (.int j) G Q = Q (.bl (decide (i = j))) G := propext ⟨fun h => by
  have h := h.2
  rwa [show PyData.eqv (py (der (.int i) G)) (py (der (.int j) G)) = decide (i = j) by
    show PyData.eqv (py (.int i)) (py (.int j)) = _
    rw [py, py, PyData.eqv]; rfl] at h, fun h => run_eq rfl rfl (by show (py (.int i)).depth ≤ 64; rw [depth_int]; decide) (by show (py (.int j)).depth ≤ 64; rw [depth_int]; decide) _ (by
    show _ ↔ D.int i = D.int j
    simp) h⟩
theorem run_nei {i j : Int} {G : DHp} {Q : DVK} : dNe (.int i) (.int j) G Q = Q (.bl (!decide (i = j))) G := propext ⟨fun h => by
  have h := h.2
  rwa [show PyData.eqv (py (der (.int i) G)) (py (der (.int j) G)) = decide (i = j) by
    show PyData.eqv (py (.int i)) (py (.int j)) = _
    rw [py, py, PyData.eqv]; rfl] at h, fun h => run_ne rfl rfl (by show (py (.int i)).depth ≤ 64; rw [depth_int]; decide) (by show (py (.int j)).depth ≤ 64; rw [depth_int]; decide) _ (by
    show _ ↔ D.int i ≠ D.int j
    simp) h⟩
theorem run_addi {i j : Int} {G : DHp} {Q : DVK} : dAdd (.int i) (.int j) G Q = Q (.int (i + j)) G := rfl
theorem run_iaddi {i j : Int} {G : DHp} {Q : DVK} : dIAdd (.int i) (.int j) G Q = Q (.int (i + j)) G := rfl
/-! ### states that forget -/
theorem le_keep {o : Option D} {η η' : DSt} (h : Le η η') : Le (o :: η) (o :: η') := h.keep
theorem le_drop {o : Option D} {η η' : DSt} (h : Le η η') : Le (none :: η) (o :: η') := h.drop
theorem mul_small {i j : Int} (h : -1000000 ≤ i ∧ i ≤ 1000000) : CMul i j := .inl ⟨by omega, by omega⟩
theorem get_map {α : Type} {f : α → D} {xs : List α} {i : Nat} {d : D} (h : (xs.map f)[i]? = some d) : ∃ x, xs[i]? = some x ∧ d = f x := by
  rw [List.getElem?_map] at h
  cases e : xs[i]? with
  | none => rw [e] at h; cases h
  | some x => rw [e] at h; exact ⟨x, rfl, (Option.some.inj h).symm⟩
theorem take_snoc {α : Type} {xs : List α} {i : Nat} {x : α} (h : xs[i]? = some x) : xs.take (i + 1) = xs.take i ++ [x] := by
  rw [List.take_add_one, h]; rfl
end DL
namespace DL
open PySem PySem.Spec PyProof.Rows L2

/-! ### steps that come again and again -/
theorem small_line {n : Nat} (h : n ≤ 1000000) : n < sizeLine := by rw [sizeLine_eq]; omega
theorem run_app {xs : List D} {p : Addr} {y : D} {G : DHp} {Q : DVK} (e : G p = some (.lst xs)) (hl : xs.length < sizeLine) (q : Q .non (up G p (.lst (xs ++ [y])))) : tyD "list" (.ref p) G ∧ dAppend [.ref p, y] G Q := by
  refine ⟨by simp only [tyD, e], ?_⟩
  show onL (.ref p) G fun a ds => ds.length < sizeLine ∧ Q .non (up G a (.lst (ds ++ [y])))
  exact onL_of e ⟨hl, q⟩
theorem mem_range {lo hi x : Int} : x ∈ rangeL lo hi ↔ lo ≤ x ∧ x < hi := by
  unfold rangeL
  rw [List.mem_map]
  constructor
  · rintro ⟨k, hk, rfl⟩
    rw [List.mem_range] at hk
    omega
  · rintro ⟨h1, h2⟩
    exact ⟨(x - lo).toNat, by rw [List.mem_range]; omega, by omega⟩
theorem len_range (lo hi : Int) : (rangeL lo hi).length = (hi - lo).toNat := by
  unfold rangeL; rw [List.length_map, List.length_range]
theorem range_sorted (lo hi : Int) : (rangeL lo hi).Pairwise (· < ·) := by
  unfold rangeL
  exact List.pairwise_map.mpr (List.Pairwise.imp (fun h => by omega) List.pairwise_lt_range)
theorem range_nodup (lo hi : Int) : (rangeL lo hi).Nodup := List.Pairwise.imp (fun {a b} (h : a < b) => (by omega : a ≠ b)) (range_sorted lo hi)
theorem up3 {G : DHp} {a p : Addr} {x x' y : DO} (h : a ≠ p) : up (up (up G a x) p y) a x' = up (up G a x') p y := by
  rw [up_comm (G := up G a x) (a := p) (b := a) (Ne.symm h), up_up]
theorem atD_get {ds : List D} {i : Int} {d : D} {Q : D → Prop} (h0 : 0 ≤ i) (e : ds[i.toNat]? = some d) (q : Q d) : atD ds (.int i) Q := by
  have h : atI ds i = some d := by
    obtain ⟨k, rfl⟩ := Int.eq_ofNat_of_zero_le h0
    exact atI_nat (by simpa using e)
  show (match atI ds i with | some d => Q d | none => False)
  rw [h]; exact q

/-! ### typed dicts -/
section
variable {α β κ : Type} [DecidableEq α] [DecidableEq κ]
def aget (kvs : List (α × β)) (a : α) : Option β := (kvs.find? fun p => decide (p.1 = a)).map (·.2)
def aput (kvs : List (α × β)) (a : α) (b : β) : List (α × β) := if kvs.any fun p => decide (p.1 = a) then kvs.map fun p => if p.1 = a then (p.1, b) else p else kvs ++ [(a, b)]
def enc (k : α → κ) (f : β → D) (kvs : List (α × β)) : List (κ × D) := kvs.map fun p => (k p.1, f p.2)
theorem dval_enc {k : α → κ} {f : β → D} (hk : ∀ {a b}, k a = k b ↔ a = b) (kvs : List (α × β)) (a : α) : dval (enc k f kvs) (k a) = (aget kvs a).map f := by
  unfold dval aget enc
  induction kvs with
  | nil => rfl
  | cons p kvs ih =>
    by_cases e : p.1 = a
    · simp [e]
    · simpa [e, hk] using ih
theorem any_enc {k : α → κ} {f : β → D} (hk : ∀ {a b}, k a = k b ↔ a = b) (kvs : List (α × β)) (a : α) : ((enc k f kvs).any fun p => decide (p.1 = k a)) = kvs.any fun p => decide (p.1 = a) := by
  unfold enc
  rw [List.any_map]
  congr 1
  funext p
  exact decide_eq_decide.mpr hk
theorem dput_enc {k : α → κ} {f : β → D} (hk : ∀ {a b}, k a = k b ↔ a = b) (kvs : List (α × β)) (a : α) (b : β) : dput (enc k f kvs) (k a) (f b) = enc k f (aput kvs a b) := by
  unfold dput aput
  rw [any_enc hk]
  split
  · unfold enc
    rw [List.map_map, List.map_map]
    refine List.map_congr_left fun p _ => ?_
    by_cases e : p.1 = a
    · simp [e]
    · simp [e, hk]
  · unfold enc; simp
theorem aget_aput (kvs : List (α × β)) (a c : α) (b : β) : aget (aput kvs a b) c = if c = a then some b else aget kvs c := by
  have h1 : ∀ kvs : List (α × β), aget (kvs.map fun p => if p.1 = a then (p.1, b) else p) c = if c = a then (aget kvs c).map fun _ => b else aget kvs c := by
    intro kvs
    induction kvs with
    | nil => unfold aget; split <;> rfl
    | cons p kvs ih =>
      unfold aget at ih ⊢
      by_cases e : p.1 = a
      · by_cases e2 : c = a
        · subst e2; simp [e]
        · have : ¬ a = c := fun h => e2 h.symm
          simp [e, this, e2] at ih ⊢
          exact ih
      · by_cases e3 : p.1 = c
        · have : ¬ c = a := fun h => e (e3.trans h)
          simp [e, e3, this]
        · simp [e, e3] at ih ⊢
          exact ih
  have h2 : ∀ kvs : List (α × β), (kvs.any fun p => decide (p.1 = a)) = (aget kvs a).isSome := by
    intro kvs
    induction kvs with
    | nil => rfl
    | cons p kvs ih =>
      unfold aget at ih ⊢
      by_cases e : p.1 = a
      · simp [e]
      · simp only [List.any_cons, e, decide_false, Bool.false_or, List.find?_cons] ; exact ih
  unfold aput
  rw [h2]
  split
  · rename_i h
    rw [h1]
    by_cases e : c = a
    · subst e
      rw [if_pos rfl, if_pos rfl]
      obtain ⟨x, hx⟩ := Option.isSome_iff_exists.mp h
      rw [hx]; rfl
    · rw [if_neg e, if_neg e]
  · rename_i h
    have hn : aget kvs a = none := by simpa using h
    unfold aget at hn ⊢
    rw [List.find?_append]
    by_cases e : c = a
    · subst e
      have : kvs.find? (fun p => decide (p.1 = c)) = none := by simpa using hn
      simp [this]
    · have : ¬ a = c := fun h => e h.symm
      simp [e, this]
theorem aput_keys (kvs : List (α × β)) (a : α) (b : β) : ((aput kvs a b).map (·.1)) = if (aget kvs a).isSome then kvs.map (·.1) else kvs.map (·.1) ++ [a] := by
  have h2 : (kvs.any fun p => decide (p.1 = a)) = (aget kvs a).isSome := by
    induction kvs with
    | nil => rfl
    | cons p kvs ih =>
      unfold aget at ih ⊢
      by_cases e : p.1 = a
      · simp [e]
      · simp only [List.any_cons, e, decide_false, Bool.false_or, List.find?_cons] ; exact ih
  unfold aput
  rw [h2]
  split
  · rw [List.map_map]
    refine List.map_congr_left fun p _ => ?_
    simp only [Function.comp]
    split <;> rfl
  · simp
theorem aget_mem (kvs : List (α × β)) (a : α) : (aget kvs a).isSome ↔ a ∈ kvs.map (·.1) := by
  induction kvs with
  | nil => simp [aget]
  | cons p kvs ih =>
    unfold aget at ih ⊢
    by_cases e : p.1 = a
    · simp [e]
    · have : ¬ a = p.1 := fun h => e h.symm
      simp only [List.find?_cons, e, decide_false, List.map_cons, List.mem_cons, this, false_or]
      exact ih
theorem aput_len (kvs : List (α × β)) (a : α) (b : β) : (aput kvs a b).length ≤ kvs.length + 1 := by
  unfold aput; split <;> simp
theorem aput_nodup (kvs : List (α × β)) (a : α) (b : β) (h : (kvs.map (·.1)).Nodup) : ((aput kvs a b).map (·.1)).Nodup := by
  rw [aput_keys]
  split
  · exact h
  · rename_i hn
    rw [aget_mem] at hn
    rw [List.nodup_append]
    exact ⟨h, by simp, fun x hx y hy => by simp at hy; subst hy; exact fun e => hn (e ▸ hx)⟩
/-- kvs counts L -/
structure Cnt (kvs : List (α × Int)) (L : List α) : Prop where
  nd : (kvs.map (·.1)).Nodup
  at_ : ∀ a, aget kvs a = if L.count a = 0 then none else some (L.count a : Int)
  le : kvs.length ≤ L.length
theorem Cnt.nil : Cnt ([] : List (α × Int)) [] := ⟨List.nodup_nil, fun a => by simp [aget], Nat.le_refl _⟩
theorem Cnt.step {kvs : List (α × Int)} {L : List α} (h : Cnt kvs L) (a : α) : Cnt (aput kvs a ((aget kvs a).getD 0 + 1)) (L ++ [a]) := by
  refine ⟨aput_nodup _ _ _ h.nd, fun c => ?_, ?_⟩
  · rw [aget_aput, h.at_ a, h.at_ c, List.count_append]
    by_cases e : c = a
    · subst e
      rw [if_pos rfl]
      by_cases z : L.count c = 0
      · simp [z]
      · simp [z]
    · have e' : ¬ a = c := fun h => e h.symm
      rw [if_neg e]
      simp [e', List.count_singleton]
  · have := aput_len kvs a ((aget kvs a).getD 0 + 1)
    have := h.le
    rw [List.length_append, List.length_singleton]; omega
theorem Cnt.mem {kvs : List (α × Int)} {L : List α} (h : Cnt kvs L) (a : α) : a ∈ kvs.map (·.1) ↔ a ∈ L := by
  rw [← aget_mem, h.at_ a]
  by_cases z : L.count a = 0
  · simp [z, List.count_eq_zero.mp z]
  · simp only [z, if_false, Option.isSome_some, true_iff]
    exact List.count_pos_iff.mp (Nat.pos_of_ne_zero z)
end
def k2 (p : Int × Int) : NestedKey := .tup [.num p.1, .num p.2]
def k3 (p : Int × Int × Int) : NestedKey := .tup [.num p.1, .num p.2.1, .num p.2.2]
theorem k2_inj {a b : Int × Int} : k2 a = k2 b ↔ a = b := by
  obtain ⟨a1, a2⟩ := a; obtain ⟨b1, b2⟩ := b
  simp [k2]
theorem k3_inj {a b : Int × Int × Int} : k3 a = k3 b ↔ a = b := by
  obtain ⟨a1, a2, a3⟩ := a; obtain ⟨b1, b2, b3⟩ := b
  simp [k3]
theorem key_e2 (p : Int × Int) : D.key (e2 p) = some (k2 p) := by simp [e2, k2, D.key, D.keys]
theorem key_e3 (p : Int × Int × Int) : D.key (e3 p) = some (k3 p) := by simp [e3, k3, D.key, D.keys]
theorem dep_k2 (p : Int × Int) : (k2 p).depth ≤ 8 := by simp [k2, NestedKey.depth, NestedKey.depthAll]
theorem dep_k3 (p : Int × Int × Int) : (k3 p).depth ≤ 8 := by simp [k3, NestedKey.depth, NestedKey.depthAll]
theorem nkD_k2 (p : Int × Int) : nkD (k2 p) = e2 p := by simp [e2, k2, nkD, nkDs]
theorem nkD_k3 (p : Int × Int × Int) : nkD (k3 p) = e3 p := by simp [e3, k3, nkD, nkDs]

/-! ### draws -/
def drw (ns : List Int) (c : Int) : DO := .lst [.nd .scr (ns.map .int), .int c]
def sp__law_number : DRn := d2 fun s i G Q => ∃ (ns : List Int) (c : Int), s = .nd .scr (ns.map .int) ∧ i = .int c ∧ ns.length ≤ 63 ∧ ∀ r : Int, 0 ≤ r → Q (.int r) G
def sp__law_take : DRn := d2 fun dr m G Q => ∃ (a : Addr) (ns : List Int) (c n : Int), dr = .ref a ∧ m = .int n ∧ 0 < n ∧ ns.length ≤ 63 ∧ G a = some (drw ns c) ∧ ∀ r : Int, 0 ≤ r → r < n → Q (.int r) (up G a (drw ns (c + 1)))
theorem len__law_number : ∀ ds G Q, sp__law_number ds G Q → ds.length = 2 := fun ds G Q h => by
  match ds, h with
  | [_, _], _ => rfl
theorem len__law_take : ∀ ds G Q, sp__law_take ds G Q → ds.length = 2 := fun ds G Q h => by
  match ds, h with
  | [_, _], _ => rfl
abbrev N__law_number : List Str := ["script", "index", "cell", "far", "rest", "lap", "blend"]
def TL_num : DTS :=
    (dSeq (dFor (diRange1 (dCons (dOp dMod (dCB dInt (dCons (dName 3) dNil)) (dC (.int 60))) dNil)) (gdName 5)
    (dAsg (dOp dFdiv (dName 4) (dC (.int 1009))) (gdName 4)))
    (dSeq (dIfS (dTest (dOp dGt (dName 4) (dC (.int 0))))
    (dRet (dOp dMod (dCB dInt (dCons (dName 4) dNil)) (dC (.int 1009))))
    dNext)
    (dSeq (dAsg (dOp dMod (dOp dAdd (dOp dMul (dCB dInt (dCons (dOp dAdd (dName 2) (dOp dMul (dC (.int 977)) (dName 1))) dNil)) (dC (.int 48271))) (dOp dMul (dC (.int 31)) (dCB dLen (dCons (dName 0) dNil)))) (dC (.int 2147483647))) (gdName 6))
    (dSeq (dAsg (dOp dMod (dOp dAdd (dOp dMul (dName 6) (dName 6)) (dOp dMul (dC (.int 40503)) (dName 1))) (dC (.int 2147483629))) (gdName 6))
    (dRet (dCB dInt (dCons (dOp dMod (dOp dAdd (dOp dMul (dName 6) (dC (.int 69621))) (dOp dFdiv (dName 6) (dC (.int 977)))) (dC (.int 2147483587))) dNil)))))))
def T__law_number : DTS :=
    (dSeq (dAsg (dIf (dTest (dOp dNe (dName 0) (dLstF dNil))) (dTup (dCons (dOp dIx (dName 0) (dOp dMod (dName 1) (dCB dLen (dCons (dName 0) dNil)))) (dCons (dOp dFdiv (dName 1) (dCB dLen (dCons (dName 0) dNil))) dNil))) (dTup (dCons (dC (.int 12345)) (dCons (dC (.int 0)) dNil)))) (gdTup (gdCons (gdName 2) (gdCons (gdName 3) gdNil)) 2))
    (dSeq (dAsg (dIf (dTest (dOp dLt (dName 3) (dC (.int 60)))) (dOp dSub (dName 2) (dOp dPow (dC (.int 10)) (dC (.int 18)))) (dC (.int 0))) (gdName 4))
    TL_num))
abbrev N__law_take : List Str := ["draw", "many"]
def T__law_take : DTS :=
    (dSeq (dAugS (dName 0) (dC (.int 1)) (dC (.int 1)) dGetL dIAdd dSet)
    (dRet (dOp dMod (dCB dInt (dCons (dCB sp__law_number (dCons (dOp dIx (dName 0) (dC (.int 0))) (dCons (dCB dInt (dCons (dOp dIx (dName 0) (dC (.int 1))) dNil)) dNil))) dNil)) (dName 1))))
theorem plain_ints (ns : List Int) : plainDs (ns.map .int) = true := by
  induction ns with
  | nil => rfl
  | cons n ns ih => exact ih
theorem run_ne_scr {ns : List Int} {G : DHp} {Q : DVK} (h : Q (.bl (!ns.isEmpty)) G) : dNe (.nd .scr (ns.map .int)) (.nd .lst []) G Q := by
  have hc : cleans (ns.map D.int) = true := cleans_map (fun _ => rfl) ns
  have e1 : py (.nd .scr (ns.map .int)) = .list (pys (ns.map .int)) := by rw [py]
  have e2 : py (.nd .lst []) = .list [] := by rw [py, pys]
  refine ⟨⟨by show plainD (.nd .scr _) = true; rw [plainD]; exact plain_ints ns, rfl, ?_, ?_⟩, ?_⟩
  · show SeqAt.shaped (py (.nd .scr (ns.map .int))) = true
    rw [e1]
    unfold SeqAt.shaped
    have := depthAll_le (B := 0) (ds := ns.map D.int) fun d hd => by
      obtain ⟨i, _, rfl⟩ := List.mem_map.mp hd; exact Nat.le_of_eq (depth_int i)
    rw [PyData.canLay0, cleans_lay hc, PyData.depth, decide_eq_true (by omega)]; rfl
  · show SeqAt.shaped (py (.nd .lst [])) = true
    rw [e2]; decide
  · show Q (.bl (!PyData.eqv (py (.nd .scr (ns.map .int))) (py (.nd .lst [])))) G
    rw [e1, e2, PyData.eqv]
    cases ns with
    | nil => simpa [pys, PyData.eqvAll] using h
    | cons n ns => simpa [pys, PyData.eqvAll] using h
theorem run_len {d : D} {ds : List D} {G : DHp} {Q : DVK} (h : sqD d G = some ds) : dLen [d] G Q = Q (.int ds.length) G := by
  unfold dLen d1
  simp only [h]
theorem run_len_scr {ns : List Int} {G : DHp} {Q : DVK} : dLen [.nd .scr (ns.map .int)] G Q = Q (.int ns.length) G := by
  rw [run_len (ds := ns.map .int) rfl, List.length_map]
theorem run_inti {i : Int} {G : DHp} {Q : DVK} : dInt [.int i] G Q = Q (.int i) G := rfl
theorem run_tail {ns : List Int} {c cell far rest : Int} {G : DHp} {Q : DVK} (q : ∀ r : Int, 0 ≤ r → Q (.int r) G) :
    TL_num { nx := fun _ G' => Q .non G', rt := Q } [some (.nd .scr (ns.map .int)), some (.int c), some (.int cell), some (.int far), some (.int rest), none, none] G := by
  unfold TL_num
  refine ⟨(by show (0 : Int) < 60; decide), ⟨by omega, by omega⟩, fun i η G' => G' = G ∧ ∃ z : Int, η = [some (.nd .scr (ns.map .int)), some (.int c), some (.int cell), some (.int far), some (.int z), none, none], ⟨rfl, rest, rfl⟩, fun _ _ _ _ => trivial, ?_, ?_⟩
  · rintro i d η G' hd ⟨rfl, z, rfl⟩
    obtain ⟨x, hx, rfl⟩ := get_map hd
    simp only [dSeq, dIfS, dTest, dOp, dName, dC, dRet, dLstF, dCons, dNil, dTup, dNext, dAsg, dLstM, gdName, dDrop, dM, dM0, dIf, dAnd, dOr, dNot, dAndV, dOrV, dNotV, dChain, dFz, dRetF, dRetN, dBreak, dCont, dCB, gdTup, gdCons, gdNil, gdSub, dNeg, dAug, dAugS, dFrz, dPar, dNoPart, dPart, dSlice, dYes, wipeD, i2, d1, d2, d3, startD, List.map_cons, List.map_nil, List.length_cons, List.length_nil, List.cons_append, List.nil_append, List.append_nil, List.getElem?_cons_zero, List.getElem?_cons_succ, List.getElem?_nil, List.replicate, List.set_cons_succ, List.set_cons_zero, Nat.reduceAdd, Nat.reduceSub, Nat.reduceLeDiff, run_eqi, run_nei, run_lt, run_le, run_gt, run_ge, run_addi, run_iaddi, true_and, and_true, Bool.not_eq_true, Bool.not_true, Bool.not_false, if_true, if_false, Bool.false_eq_true, ite_true, ite_false, reduceIte, reduceCtorEq, decide_eq_true_eq, decide_eq_false_iff_not]
    exact ⟨⟨by decide, by decide⟩, _, (by repeat (first | exact Le.nil | apply Le.keep | apply Le.drop)), rfl, _, rfl⟩
  · rintro η G' ⟨rfl, z, rfl⟩
    simp only [run_len_scr, run_inti, dSeq, dIfS, dTest, dOp, dName, dC, dRet, dLstF, dCons, dNil, dTup, dNext, dAsg, dLstM, gdName, dDrop, dM, dM0, dIf, dAnd, dOr, dNot, dAndV, dOrV, dNotV, dChain, dFz, dRetF, dRetN, dBreak, dCont, dCB, gdTup, gdCons, gdNil, gdSub, dNeg, dAug, dAugS, dFrz, dPar, dNoPart, dPart, dSlice, dYes, wipeD, i2, d1, d2, d3, startD, List.map_cons, List.map_nil, List.length_cons, List.length_nil, List.cons_append, List.nil_append, List.append_nil, List.getElem?_cons_zero, List.getElem?_cons_succ, List.getElem?_nil, List.replicate, List.set_cons_succ, List.set_cons_zero, Nat.reduceAdd, Nat.reduceSub, Nat.reduceLeDiff, run_eqi, run_nei, run_lt, run_le, run_gt, run_ge, run_addi, run_iaddi, true_and, and_true, Bool.not_eq_true, Bool.not_true, Bool.not_false, if_true, if_false, Bool.false_eq_true, ite_true, ite_false, reduceIte, reduceCtorEq, decide_eq_true_eq, decide_eq_false_iff_not]
    split
    · exact ⟨by decide, q _ (Int.emod_nonneg _ (by decide))⟩
    · refine ⟨.inl ⟨by decide, by decide⟩, .inr ⟨by decide, by decide⟩, .inl ⟨by decide, by decide⟩, by decide, ?_⟩
      have hb := Int.emod_nonneg ((cell + 977 * c) * 48271 + 31 * (ns.length : Int)) (show (2147483647 : Int) ≠ 0 by decide)
      have hb2 := Int.emod_lt_of_pos ((cell + 977 * c) * 48271 + 31 * (ns.length : Int)) (show (0 : Int) < 2147483647 by decide)
      generalize ((cell + 977 * c) * 48271 + 31 * (ns.length : Int)) % 2147483647 = b at hb hb2 ⊢
      refine ⟨.inl ⟨by omega, by omega⟩, .inl ⟨by decide, by decide⟩, by decide, ?_⟩
      refine ⟨.inr ⟨by decide, by decide⟩, ⟨by decide, by decide⟩, by decide, q _ (Int.emod_nonneg _ (by decide))⟩
theorem run_ix_scr {ns : List Int} {i : Int} {G : DHp} {Q : DVK} (h0 : 0 ≤ i) (h1 : i < ns.length) (h : ∀ z : Int, Q (.int z) G) : dIx (.nd .scr (ns.map .int)) (.int i) G Q := by
  show atD (ns.map .int) (.int i) fun d => Q d G
  have hi : i.toNat < (ns.map D.int).length := by rw [List.length_map]; omega
  refine atD_get h0 (d := (ns.map D.int)[i.toNat]) (List.getElem?_eq_getElem hi) ?_
  rw [List.getElem_map]
  exact h _
theorem run__law_number : ∀ ds G Q, sp__law_number ds G Q → T__law_number { nx := fun _ G' => Q .non G', rt := Q } (startD N__law_number ds) G := fun ds G Q h => by
  match ds, h with
  | [_, _], ⟨ns, c, rfl, rfl, hl, q⟩ =>
    simp only [T__law_number, N__law_number, run_len_scr, run_inti, dSeq, dIfS, dTest, dOp, dName, dC, dRet, dLstF, dCons, dNil, dTup, dNext, dAsg, dLstM, gdName, dDrop, dM, dM0, dIf, dAnd, dOr, dNot, dAndV, dOrV, dNotV, dChain, dFz, dRetF, dRetN, dBreak, dCont, dCB, gdTup, gdCons, gdNil, gdSub, dNeg, dAug, dAugS, dFrz, dPar, dNoPart, dPart, dSlice, dYes, wipeD, i2, d1, d2, d3, startD, List.map_cons, List.map_nil, List.length_cons, List.length_nil, List.cons_append, List.nil_append, List.append_nil, List.getElem?_cons_zero, List.getElem?_cons_succ, List.getElem?_nil, List.replicate, List.set_cons_succ, List.set_cons_zero, Nat.reduceAdd, Nat.reduceSub, Nat.reduceLeDiff, run_eqi, run_nei, run_lt, run_le, run_gt, run_ge, run_addi, run_iaddi, true_and, and_true, Bool.not_eq_true, Bool.not_true, Bool.not_false, if_true, if_false, Bool.false_eq_true, ite_true, ite_false, reduceIte, reduceCtorEq, decide_eq_true_eq, decide_eq_false_iff_not]
    refine run_ne_scr ?_
    simp only [run_len_scr, run_inti, dSeq, dIfS, dTest, dOp, dName, dC, dRet, dLstF, dCons, dNil, dTup, dNext, dAsg, dLstM, gdName, dDrop, dM, dM0, dIf, dAnd, dOr, dNot, dAndV, dOrV, dNotV, dChain, dFz, dRetF, dRetN, dBreak, dCont, dCB, gdTup, gdCons, gdNil, gdSub, dNeg, dAug, dAugS, dFrz, dPar, dNoPart, dPart, dSlice, dYes, wipeD, i2, d1, d2, d3, startD, List.map_cons, List.map_nil, List.length_cons, List.length_nil, List.cons_append, List.nil_append, List.append_nil, List.getElem?_cons_zero, List.getElem?_cons_succ, List.getElem?_nil, List.replicate, List.set_cons_succ, List.set_cons_zero, Nat.reduceAdd, Nat.reduceSub, Nat.reduceLeDiff, run_eqi, run_nei, run_lt, run_le, run_gt, run_ge, run_addi, run_iaddi, true_and, and_true, Bool.not_eq_true, Bool.not_true, Bool.not_false, if_true, if_false, Bool.false_eq_true, ite_true, ite_false, reduceIte, reduceCtorEq, decide_eq_true_eq, decide_eq_false_iff_not]
    split
    · rename_i hne
      have hp : 0 < ns.length := by
        cases ns with
        | nil => simp at hne
        | cons _ _ => simp
      refine ⟨by omega, run_ix_scr (Int.emod_nonneg _ (by omega)) (Int.emod_lt_of_pos _ (by omega)) fun z => ⟨⟨by omega, by omega⟩, ?_⟩⟩
      split
      · exact ⟨⟨by decide, by decide, by decide⟩, trivial, run_tail q⟩
      · exact run_tail q
    · split
      · exact ⟨⟨by decide, by decide, by decide⟩, run_tail q⟩
      · exact run_tail q
theorem run__law_take : ∀ ds G Q, sp__law_take ds G Q → T__law_take { nx := fun _ G' => Q .non G', rt := Q } (startD N__law_take ds) G := fun ds G Q h => by
  match ds, h with
  | [_, _], ⟨a, ns, c, n, rfl, rfl, hn, hl, hG, q⟩ =>
    simp only [T__law_take, N__law_take, dSeq, dIfS, dTest, dOp, dName, dC, dRet, dLstF, dCons, dNil, dTup, dNext, dAsg, dLstM, gdName, dDrop, dM, dM0, dIf, dAnd, dOr, dNot, dAndV, dOrV, dNotV, dChain, dFz, dRetF, dRetN, dBreak, dCont, dCB, gdTup, gdCons, gdNil, gdSub, dNeg, dAug, dAugS, dFrz, dPar, dNoPart, dPart, dSlice, dYes, wipeD, i2, d1, d2, d3, startD, List.map_cons, List.map_nil, List.length_cons, List.length_nil, List.cons_append, List.nil_append, List.append_nil, List.getElem?_cons_zero, List.getElem?_cons_succ, List.getElem?_nil, List.replicate, List.set_cons_succ, List.set_cons_zero, Nat.reduceAdd, Nat.reduceSub, Nat.reduceLeDiff, run_eqi, run_nei, run_lt, run_le, run_gt, run_ge, run_addi, run_iaddi, true_and, and_true, Bool.not_eq_true, Bool.not_true, Bool.not_false, if_true, if_false, Bool.false_eq_true, ite_true, ite_false, reduceIte, reduceCtorEq, decide_eq_true_eq, decide_eq_false_iff_not]
    have e1 : der (.ref a) G = .nd .lst [.nd .scr (ns.map .int), .int c] := der_lt hG
    show dGetL (.ref a) (.int 1) G _
    unfold dGetL
    rw [e1]
    refine atD_get (by decide) rfl ?_
    simp only [dSeq, dIfS, dTest, dOp, dName, dC, dRet, dLstF, dCons, dNil, dTup, dNext, dAsg, dLstM, gdName, dDrop, dM, dM0, dIf, dAnd, dOr, dNot, dAndV, dOrV, dNotV, dChain, dFz, dRetF, dRetN, dBreak, dCont, dCB, gdTup, gdCons, gdNil, gdSub, dNeg, dAug, dAugS, dFrz, dPar, dNoPart, dPart, dSlice, dYes, wipeD, i2, d1, d2, d3, startD, List.map_cons, List.map_nil, List.length_cons, List.length_nil, List.cons_append, List.nil_append, List.append_nil, List.getElem?_cons_zero, List.getElem?_cons_succ, List.getElem?_nil, List.replicate, List.set_cons_succ, List.set_cons_zero, Nat.reduceAdd, Nat.reduceSub, Nat.reduceLeDiff, run_eqi, run_nei, run_lt, run_le, run_gt, run_ge, run_addi, run_iaddi, true_and, and_true, Bool.not_eq_true, Bool.not_true, Bool.not_false, if_true, if_false, Bool.false_eq_true, ite_true, ite_false, reduceIte, reduceCtorEq, decide_eq_true_eq, decide_eq_false_iff_not]
    have e2 : up G a (.lst ([D.nd .scr (ns.map .int), .int c].set 1 (.int (c + 1)))) = up G a (drw ns (c + 1)) := rfl
    have hs : ∀ R, R (up G a (drw ns (c + 1))) → dSet (.ref a) (.int 1) (.int (c + 1)) G R := fun R h => by
      show (match G a with | some (.lst ds) => _ | some (.dN kvs) => _ | some (.dK kvs) => _ | _ => False)
      rw [hG]
      exact h
    refine hs _ ?_
    have e3 : der (.ref a) (up G a (drw ns (c + 1))) = .nd .lst [.nd .scr (ns.map .int), .int (c + 1)] := der_lt up_same
    have hix : ∀ (i : Int) (d : D) R, 0 ≤ i → [D.nd .scr (ns.map .int), .int (c + 1)][i.toNat]? = some d → R d (up G a (drw ns (c + 1))) → dIx (.ref a) (.int i) (up G a (drw ns (c + 1))) R := fun i d R h0 h1 h => by
      unfold dIx
      rw [e3]
      exact atD_get h0 h1 h
    refine hix 0 _ _ (by decide) rfl ?_
    refine hix 1 _ _ (by decide) rfl ?_
    simp only [run_inti, dSeq, dIfS, dTest, dOp, dName, dC, dRet, dLstF, dCons, dNil, dTup, dNext, dAsg, dLstM, gdName, dDrop, dM, dM0, dIf, dAnd, dOr, dNot, dAndV, dOrV, dNotV, dChain, dFz, dRetF, dRetN, dBreak, dCont, dCB, gdTup, gdCons, gdNil, gdSub, dNeg, dAug, dAugS, dFrz, dPar, dNoPart, dPart, dSlice, dYes, wipeD, i2, d1, d2, d3, startD, List.map_cons, List.map_nil, List.length_cons, List.length_nil, List.cons_append, List.nil_append, List.append_nil, List.getElem?_cons_zero, List.getElem?_cons_succ, List.getElem?_nil, List.replicate, List.set_cons_succ, List.set_cons_zero, Nat.reduceAdd, Nat.reduceSub, Nat.reduceLeDiff, run_eqi, run_nei, run_lt, run_le, run_gt, run_ge, run_addi, run_iaddi, true_and, and_true, Bool.not_eq_true, Bool.not_true, Bool.not_false, if_true, if_false, Bool.false_eq_true, ite_true, ite_false, reduceIte, reduceCtorEq, decide_eq_true_eq, decide_eq_false_iff_not]
    refine ⟨ns, c + 1, rfl, rfl, hl, fun r hr => ?_⟩
    simp only [run_inti, dSeq, dIfS, dTest, dOp, dName, dC, dRet, dLstF, dCons, dNil, dTup, dNext, dAsg, dLstM, gdName, dDrop, dM, dM0, dIf, dAnd, dOr, dNot, dAndV, dOrV, dNotV, dChain, dFz, dRetF, dRetN, dBreak, dCont, dCB, gdTup, gdCons, gdNil, gdSub, dNeg, dAug, dAugS, dFrz, dPar, dNoPart, dPart, dSlice, dYes, wipeD, i2, d1, d2, d3, startD, List.map_cons, List.map_nil, List.length_cons, List.length_nil, List.cons_append, List.nil_append, List.append_nil, List.getElem?_cons_zero, List.getElem?_cons_succ, List.getElem?_nil, List.replicate, List.set_cons_succ, List.set_cons_zero, Nat.reduceAdd, Nat.reduceSub, Nat.reduceLeDiff, run_eqi, run_nei, run_lt, run_le, run_gt, run_ge, run_addi, run_iaddi, true_and, and_true, Bool.not_eq_true, Bool.not_true, Bool.not_false, if_true, if_false, Bool.false_eq_true, ite_true, ite_false, reduceIte, reduceCtorEq, decide_eq_true_eq, decide_eq_false_iff_not]
    exact ⟨hn, q _ (Int.emod_nonneg _ (by omega)) (Int.emod_lt_of_pos _ hn)⟩
/-- a draw -/
theorem run_take {a : Addr} {ns : List Int} {c n : Int} {G : DHp} {Q : DVK} (hn : 0 < n) (hl : ns.length ≤ 63) (hG : G a = some (drw ns c)) (q : ∀ r : Int, 0 ≤ r → r < n → Q (.int r) (up G a (drw ns (c + 1)))) : sp__law_take [.ref a, .int n] G Q :=
  ⟨a, ns, c, n, rfl, rfl, hn, hl, hG, q⟩
end DL
namespace DL
open PySem PySem.Spec PyProof.Rows L2

/-! ### a dict that is changed no more; its rules -/
section
variable {α β : Type} [DecidableEq α]
def eD (k : α → NestedKey) (f : β → D) (kvs : List (α × β)) : D := .nd (.dN ((enc k f kvs).map (·.1))) ((enc k f kvs).map (·.2))
theorem tree_eD (k : α → NestedKey) (f : β → D) (kvs : List (α × β)) : DO.tree (.dN (enc k f kvs)) = eD k f kvs := rfl
theorem dicN_eD (k : α → NestedKey) (f : β → D) (kvs : List (α × β)) (G : DHp) : dicN (eD k f kvs) G = some (enc k f kvs) := by
  show some (((enc k f kvs).map (·.1)).zip ((enc k f kvs).map (·.2))) = _
  rw [zip_maps]
theorem dicN_ref {k : α → NestedKey} {f : β → D} {kvs : List (α × β)} {G : DHp} {p : Addr} (e : G p = some (.dN (enc k f kvs))) : dicN (.ref p) G = some (enc k f kvs) := by
  show (match G p with | some (.dN kvs) => some kvs | _ => none) = _
  rw [e]
/-- a key that is a tuple -/
structure TKey (k : α → NestedKey) (e : α → D) : Prop where
  inj : ∀ {a b}, k a = k b ↔ a = b
  shp : ∀ a, ∃ ks, e a = .nd .tup ks
  key : ∀ a, D.key (e a) = some (k a)
  dep : ∀ a, (k a).depth ≤ 8
  nk : ∀ a, nkD (k a) = e a
theorem tk2 : TKey k2 e2 := ⟨k2_inj, fun _ => ⟨_, rfl⟩, key_e2, dep_k2, nkD_k2⟩
theorem tk3 : TKey k3 e3 := ⟨k3_inj, fun _ => ⟨_, rfl⟩, key_e3, dep_k3, nkD_k3⟩
variable {k : α → NestedKey} {e : α → D} {f : β → D} {kvs : List (α × β)} {G : DHp} {Q : DVK} {a : α}
theorem run_get2 (T : TKey k e) {x z : D} (h : dicN x G = some (enc k f kvs)) (q : Q (((aget kvs a).map f).getD z) G) : dGet2 [x, e a, z] G Q := by
  obtain ⟨ks, ek⟩ := T.shp a
  show (match dicN x G with | some kvs => _ | none => _)
  rw [h]
  show (match e a with | .nd .tup ks => _ | _ => False)
  have hk := T.key a
  rw [ek] at hk ⊢
  show (match D.key (.nd .tup ks) with | some k => _ | none => False)
  rw [hk]
  refine ⟨T.dep a, ?_⟩
  rw [dval_enc T.inj]
  exact q
theorem run_getI (T : TKey k e) {kvs : List (α × Int)} {x : D} {z : Int} (h : dicN x G = some (enc k .int kvs)) (ty : tyD "dict" x G) (q : Q (.int ((aget kvs a).getD z)) G) : tyD "dict" x G ∧ dGet2 [x, e a, .int z] G Q := by
  refine ⟨ty, run_get2 T h ?_⟩
  rw [show ((aget kvs a).map D.int).getD (.int z) = .int ((aget kvs a).getD z) by cases aget kvs a <;> rfl]
  exact q
theorem ty_ref {kvs : List (NestedKey × D)} {p : Addr} (h : G p = some (.dN kvs)) : tyD "dict" (.ref p) G := by simp only [tyD, h]
theorem run_set (T : TKey k e) {p : Addr} {b : β} {R : DHp → Prop} (h : G p = some (.dN (enc k f kvs))) (hl : kvs.length < sizeLine) (q : R (up G p (.dN (enc k f (aput kvs a b))))) : dSet (.ref p) (e a) (f b) G R := by
  obtain ⟨ks, ek⟩ := T.shp a
  show (match G p with | some (.lst ds) => _ | some (.dN kvs) => _ | some (.dK kvs) => _ | _ => False)
  rw [h]
  show (match e a with | .nd .tup ks => _ | _ => False)
  have hk := T.key a
  rw [ek] at hk ⊢
  show (match D.key (.nd .tup ks) with | some k => _ | none => False)
  rw [hk]
  refine ⟨⟨T.dep a, by unfold enc; rw [List.length_map]; exact hl⟩, ?_⟩
  rw [dput_enc T.inj]
  exact q
theorem run_inD (T : TKey k e) {neg : Bool} {y : D} (h : dicN y G = some (enc k f kvs)) (q : Q (.bl (neg != (aget kvs a).isSome)) G) : dIn neg (e a) y G Q := by
  obtain ⟨ks, ek⟩ := T.shp a
  have hk := T.key a
  have hd : ∀ ds, der y G ≠ .nd .lst ds ∧ der y G ≠ .nd .tup ds := fun ds => by
    cases y with
    | ref p =>
      have h' : (match G p with | some (.dN kvs) => some kvs | _ => none) = some (enc k f kvs) := h
      cases g : G p with
      | none => rw [g] at h'; cases h'
      | some o =>
        rw [g] at h'
        cases o with
        | dN kk => rw [der_ref, g]; exact ⟨(nomatch ·), (nomatch ·)⟩
        | _ => cases h'
    | nd kd es =>
      cases kd with
      | dN _ => exact ⟨(nomatch ·), (nomatch ·)⟩
      | _ => cases h
    | _ => cases h
  unfold dIn
  split
  · rename_i ds he; exact ((hd ds).1 he).elim
  · rename_i ds he; exact ((hd ds).2 he).elim
  · rw [h]
    show (match e a with | .nd .tup ks => _ | _ => False)
    rw [ek] at hk ⊢
    show (match D.key (.nd .tup ks) with | some k => _ | none => False)
    rw [hk]
    refine ⟨T.dep a, ?_⟩
    rw [dval_enc T.inj, Option.isSome_map]
    exact q
end
/-! ### sorting -/
def srtT {α : Type} (f : α → D) (xs : List α) : List α := xs.mergeSort fun a b => PySem.W.dataLe false py (f a) (f b)
theorem srt_map {α : Type} (f : α → D) (xs : List α) : srt (xs.map f) = (srtT f xs).map f := by
  unfold srt srtT
  exact (List.map_mergeSort (r := fun a b => PySem.W.dataLe false py (f a) (f b)) (s := PySem.W.dataLe false py) (f := f) (l := xs) fun a _ b _ => rfl).symm
theorem srtT_perm {α : Type} (f : α → D) (xs : List α) : (srtT f xs).Perm xs := List.mergeSort_perm _ _
theorem run_sorted {α : Type} {f : α → D} {d : D} {xs : List α} {G : DHp} {Q : DVK} (h : lsD d G = some (xs.map f)) (hp : ∀ a, clean (f a) = true) (al : ∀ a b, PySem.W.alike (py (f a)) (py (f b)) = true) (st : PySem.W.Sortable ((xs.map f).map py)) (dp : ∀ a, (py (f a)).depth ≤ 60)
    (q : ∀ p, G p = none → Q (.ref p) (up G p (.lst ((srtT f xs).map f)))) : dSorted [d] G Q := by
  show (match lsD d G with | some ds => _ | none => False)
  rw [h]
  refine ⟨⟨cleans_plain (cleans_map hp xs), ?_, st, fun d hd => ?_⟩, fun p hn => by rw [srt_map]; exact q p hn⟩
  · rw [List.map_map]; exact PySem.W.AllAlike.of al
  · obtain ⟨a, _, rfl⟩ := List.mem_map.mp hd; exact dp a
theorem run_sortedD {α β : Type} [DecidableEq α] {k : α → NestedKey} {e : α → D} {f : β → D} (T : TKey k e) {d : D} {kvs : List (α × β)} {G : DHp} {Q : DVK} (h : dicN d G = some (enc k f kvs)) (al : ∀ a b, PySem.W.alike (py (e a)) (py (e b)) = true) (st : PySem.W.Sortable (((kvs.map (·.1)).map e).map py)) (dp : ∀ a, (py (e a)).depth ≤ 60)
    (q : ∀ p, G p = none → Q (.ref p) (up G p (.lst ((srtT e (kvs.map (·.1))).map e)))) : dSortedD [d] G Q := by
  have hk : keysD d G = some ((kvs.map (·.1)).map e) := by
    unfold keysD
    rw [h]
    unfold enc
    show some (List.map (fun p => nkD p.1) (List.map (fun p => (k p.1, f p.2)) kvs)) = _
    rw [List.map_map, List.map_map]
    congr 1
    exact List.map_congr_left fun p _ => T.nk p.1
  show (match keysD d G with | some ks => _ | none => False)
  rw [hk]
  refine ⟨⟨?_, st, fun d hd => ?_⟩, fun p hn => by rw [srt_map]; exact q p hn⟩
  · rw [List.map_map]; exact PySem.W.AllAlike.of al
  · obtain ⟨a, _, rfl⟩ := List.mem_map.mp hd; exact dp a
theorem al2 (a b : Int × Int) : PySem.W.alike (py (e2 a)) (py (e2 b)) = true := by simp [e2, py, pys, PySem.W.alike, PySem.W.alikeAll]
theorem al3 (a b : Int × Int × Int) : PySem.W.alike (py (e3 a)) (py (e3 b)) = true := by simp [e3, py, pys, PySem.W.alike, PySem.W.alikeAll]
theorem st2 (xs : List (Int × Int)) : PySem.W.Sortable ((xs.map e2).map py) := by
  rw [List.map_map]
  exact PySem.W.Sortable.tuples fun b => ⟨.int b.1, [.int b.2], by simp [e2, py, pys]⟩
theorem st3 (xs : List (Int × Int × Int)) : PySem.W.Sortable ((xs.map e3).map py) := by
  rw [List.map_map]
  exact PySem.W.Sortable.tuples fun b => ⟨.int b.1, [.int b.2.1, .int b.2.2], by simp [e3, py, pys]⟩
/-- the order of tuples of ints -/
theorem le_ints (xs ys : List Int) : (!PySem.W.dataLt (.tuple (ys.map .int)) (.tuple (xs.map .int))) = decide (xs ≤ ys) := by
  rw [PySem.W.dataLt_tuple]
  have := PySem.W.dataLt_ints ys xs
  have h2 : PyProof.Rows.lexLt itemOrd (PySem.W.keyToksAll (ys.map .int)) (PySem.W.keyToksAll (xs.map .int)) = decide (ys < xs) := this
  rw [h2, ← decide_not]
  exact decide_eq_decide.mpr Iff.rfl
theorem le_e2 (a b : Int × Int) : PySem.W.dataLe false py (e2 a) (e2 b) = decide ([a.1, a.2] ≤ [b.1, b.2]) := by
  rw [← le_ints, PySem.W.dataLe_eq]
  simp [e2, py, pys]
theorem le_e3 (a b : Int × Int × Int) : PySem.W.dataLe false py (e3 a) (e3 b) = decide ([a.1, a.2.1, a.2.2] ≤ [b.1, b.2.1, b.2.2]) := by
  rw [← le_ints, PySem.W.dataLe_eq]
  simp [e3, py, pys]
/-- two sortings of the same are the same -/
theorem sorted_unique {α : Type} {le : α → α → Bool} (anti : ∀ a b, le a b = true → le b a = true → a = b) : ∀ {xs ys : List α}, xs.Perm ys → xs.Pairwise (fun a b => le a b = true) → ys.Pairwise (fun a b => le a b = true) → xs = ys
  | [], ys, p, _, _ => (List.Perm.nil_eq p)
  | x :: xs, [], p, _, _ => absurd p.length_eq (by simp)
  | x :: xs, y :: ys, p, hx, hy => by
    rw [List.pairwise_cons] at hx hy
    have e : x = y := by
      have m1 : x ∈ y :: ys := p.subset (by simp)
      have m2 : y ∈ x :: xs := p.symm.subset (by simp)
      rcases List.mem_cons.mp m1 with e | m1
      · exact e
      · rcases List.mem_cons.mp m2 with e | m2
        · exact e.symm
        · exact anti _ _ (hx.1 y m2) (hy.1 x m1)
    subst e
    rw [sorted_unique anti ((List.perm_cons x).mp p) hx.2 hy.2]
theorem srtT_eq {α : Type} {f : α → D} {g : α → List Int} (hf : ∀ a b, PySem.W.dataLe false py (f a) (f b) = decide (g a ≤ g b)) (gi : ∀ a b, g a = g b → a = b) {xs ys : List α} (p : xs.Perm ys) : srtT f xs = srtT f ys := by
  have tr : ∀ a b c : α, PySem.W.dataLe false py (f a) (f b) = true → PySem.W.dataLe false py (f b) (f c) = true → PySem.W.dataLe false py (f a) (f c) = true := fun a b c h1 h2 => by
    rw [hf, decide_eq_true_eq] at *
    exact List.le_trans h1 h2
  have tot : ∀ a b : α, (PySem.W.dataLe false py (f a) (f b) || PySem.W.dataLe false py (f b) (f a)) = true := fun a b => by
    rw [hf, hf, Bool.or_eq_true, decide_eq_true_eq, decide_eq_true_eq]
    exact List.le_total _ _
  refine sorted_unique (le := fun a b => PySem.W.dataLe false py (f a) (f b)) (fun a b h1 h2 => ?_) ((srtT_perm f xs).trans (p.trans (srtT_perm f ys).symm)) ?_ ?_
  · rw [hf, decide_eq_true_eq] at h1 h2
    exact gi _ _ (List.le_antisymm h1 h2)
  · exact List.pairwise_mergeSort tr tot xs
  · exact List.pairwise_mergeSort tr tot ys
theorem srtT_id {α : Type} {f : α → D} {g : α → List Int} (hf : ∀ a b, PySem.W.dataLe false py (f a) (f b) = decide (g a ≤ g b)) {xs : List α} (h : xs.Pairwise fun a b => g a ≤ g b) : srtT f xs = xs :=
  List.mergeSort_of_pairwise (h.imp fun h => by rw [hf]; exact decide_eq_true h)
theorem nodup_perm {α : Type} [DecidableEq α] {xs ys : List α} (h1 : xs.Nodup) (h2 : ys.Nodup) (h : ∀ a, a ∈ xs ↔ a ∈ ys) : xs.Perm ys := by
  rw [List.perm_iff_count]
  intro a
  rw [h1.count, h2.count]
  simp only [h]
theorem len_flatMap {α β : Type} {f : α → List β} {B : Nat} : ∀ {xs : List α}, (∀ x ∈ xs, (f x).length ≤ B) → (xs.flatMap f).length ≤ xs.length * B
  | [], _ => by simp
  | x :: xs, h => by
    rw [List.flatMap_cons, List.length_append, List.length_cons, Nat.succ_mul]
    have := h x (by simp)
    have := len_flatMap (f := f) (B := B) (xs := xs) fun y hy => h y (by simp [hy])
    omega
end DL
/-! DLq: instances: made, their fields, their methods; isinstance. -/
namespace DL
open PySem PySem.Spec PyProof.Rows L2

/-! ### fields by name -/
/-- the field n set to d -/
def fput (n : Str) (d : D) : List (Str × D) → List (Str × D)
  | [] => [(n, d)]
  | (g, x) :: r => if g = n then (g, d) :: r else (g, x) :: fput n d r
/-- the field of an instance of the class C -/
def fldD (C : Addr) (n : Str) (x : D) (G : DHp) : Option D := match x with
  | .ref a => (match G a with
    | some (.ins B fs) => if B = C then fs.lookup n else none
    | _ => none)
  | .nd (.ins B ns) ds => if B = C then (ns.zip ds).lookup n else none
  | _ => none
/-- an instance of the class C, without a field m of its own -/
def insD (C : Addr) (m : Str) (x : D) (G : DHp) : Prop := match x with
  | .ref a => (match G a with
    | some (.ins B fs) => B = C ∧ (fs.map (·.1)).contains m = false
    | _ => False)
  | .nd (.ins B ns) _ => B = C ∧ ns.contains m = false
  | _ => False
section
variable {K : Ml} {H : Hp} {G : DHp}
theorem fput_vr (n : Str) {d : D} {v : V} (q : VR K H G d v) : ∀ {fs : List (Str × D)} {ws : List (Str × V)}, ws.map (·.1) = fs.map (·.1) → VRs K H G (fs.map (·.2)) (ws.map (·.2)) →
    (putF n v ws).map (·.1) = (fput n d fs).map (·.1) ∧ VRs K H G ((fput n d fs).map (·.2)) ((putF n v ws).map (·.2))
  | [], [], _, _ => ⟨rfl, .cons q .nil⟩
  | [], _ :: _, h, _ => by simp at h
  | _ :: _, [], h, _ => by simp at h
  | (g, x) :: fs, (g2, y) :: ws, h, r => by
    simp only [List.map_cons, List.cons.injEq] at h
    obtain ⟨h1, h2⟩ := h
    subst h1
    obtain ⟨v', r', eq, q1, t⟩ := VRs.uncons r
    simp only [List.map_cons, List.cons.injEq] at eq
    obtain ⟨rfl, rfl⟩ := eq
    by_cases hg : g2 = n
    · simp only [fput, putF, hg, if_true, List.map_cons]
      exact ⟨by rw [h2], .cons q t⟩
    · simp only [fput, putF, hg, if_false, List.map_cons]
      obtain ⟨a, b⟩ := fput_vr n q h2 t
      exact ⟨by rw [a], .cons q1 b⟩
theorem look_vr {n : Str} {d : D} : ∀ {fs : List (Str × D)} {ws : List (Str × V)}, ws.map (·.1) = fs.map (·.1) → VRs K H G (fs.map (·.2)) (ws.map (·.2)) → fs.lookup n = some d → ∃ v, ws.lookup n = some v ∧ VR K H G d v
  | [], _, _, _, e => by simp at e
  | _ :: _, [], h, _, _ => by simp at h
  | (g, x) :: fs, (g2, y) :: ws, h, r, e => by
    simp only [List.map_cons, List.cons.injEq] at h
    obtain ⟨h1, h2⟩ := h
    subst h1
    obtain ⟨v', r', eq, q1, t⟩ := VRs.uncons r
    simp only [List.map_cons, List.cons.injEq] at eq
    obtain ⟨rfl, rfl⟩ := eq
    by_cases hg : (n == g2) = true
    · simp only [List.lookup, hg, Option.some.injEq] at e ⊢
      subst e
      exact ⟨_, rfl, q1⟩
    · have hg : (n == g2) = false := by simpa using hg
      simp only [List.lookup, hg] at e ⊢
      exact look_vr h2 t e
theorem look_none {n : Str} : ∀ {ws : List (Str × V)}, (ws.map (·.1)).contains n = false → ws.lookup n = none
  | [], _ => rfl
  | (g, y) :: ws, h => by
    simp only [List.map_cons, List.contains_cons, Bool.or_eq_false_iff] at h
    simp only [List.lookup, h.1]
    exact look_none h.2
theorem zip_fst : ∀ {ns : List Str} {vs : List V}, ns.length = vs.length → (ns.zip vs).map (·.1) = ns
  | [], [], _ => rfl
  | n :: ns, v :: vs, h => by
    simp only [List.zip_cons_cons, List.map_cons]
    rw [zip_fst (by simpa using h)]
theorem zip_snd : ∀ {ns : List Str} {vs : List V}, ns.length = vs.length → (ns.zip vs).map (·.2) = vs
  | [], [], _ => rfl
  | n :: ns, v :: vs, h => by
    simp only [List.zip_cons_cons, List.map_cons]
    rw [zip_snd (by simpa using h)]
theorem zipD_fst : ∀ {ns : List Str} {vs : List D}, ns.length = vs.length → (ns.zip vs).map (·.1) = ns
  | [], [], _ => rfl
  | n :: ns, v :: vs, h => by
    simp only [List.zip_cons_cons, List.map_cons]
    rw [zipD_fst (by simpa using h)]
theorem zipD_snd : ∀ {ns : List Str} {vs : List D}, ns.length = vs.length → (ns.zip vs).map (·.2) = vs
  | [], [], _ => rfl
  | n :: ns, v :: vs, h => by
    simp only [List.zip_cons_cons, List.map_cons]
    rw [zipD_snd (by simpa using h)]
/-- what stands where a field is read -/
theorem fldD_at {C : Addr} {n : Str} {x d : D} {v : V} (hr : HR K H G) (q : VR K H G x v) (e : fldD C n x G = some d) :
    ∃ a dx ws u, v = .ref a ∧ H a = some (.ins C dx ws) ∧ ws.lookup n = some u ∧ VR K H G d u := by
  cases x with
  | ref a =>
    rw [VR] at q
    have e : (match G a with
      | some (.ins B fs) => if B = C then fs.lookup n else none
      | _ => none) = some d := e
    cases hG : G a with
    | none => rw [hG] at e; cases e
    | some o =>
      rw [hG] at e
      cases o with
      | ins B fs =>
        simp only at e
        by_cases hB : B = C
        · subst hB
          rw [if_pos rfl] at e
          obtain ⟨dx, ws, h1, h2, h3⟩ := hr a _ hG
          obtain ⟨u, h4, h5⟩ := look_vr h2 h3 e
          exact ⟨a, dx, ws, u, q, h1, h4, h5⟩
        · rw [if_neg hB] at e; cases e
      | _ => cases e
  | nd k ds =>
    cases k with
    | ins B ns =>
      rw [VR] at q
      obtain ⟨a, vs, rfl, ⟨h0, h1, dx, h2⟩, r⟩ := q
      have e : (if B = C then (ns.zip ds).lookup n else none) = some d := e
      by_cases hB : B = C
      · subst hB
        rw [if_pos rfl] at e
        have hl : ns.length = ds.length := h1.trans r.length
        obtain ⟨u, h4, h5⟩ := look_vr (ws := ns.zip vs) (by rw [zip_fst h1, zipD_fst hl]) (by rw [zip_snd h1, zipD_snd hl]; exact r) e
        exact ⟨a, dx, _, u, rfl, h2, h4, h5⟩
      · rw [if_neg hB] at e; cases e
    | _ => cases e
  | _ => cases e
/-- what stands where a method is asked for -/
theorem insD_at {C : Addr} {m : Str} {x : D} {v : V} (hr : HR K H G) (q : VR K H G x v) (e : insD C m x G) : ∃ a dx ws, v = .ref a ∧ H a = some (.ins C dx ws) ∧ ws.lookup m = none := by
  cases x with
  | ref a =>
    rw [VR] at q
    have e : (match G a with
      | some (.ins B fs) => B = C ∧ (fs.map (·.1)).contains m = false
      | _ => False) := e
    cases hG : G a with
    | none => rw [hG] at e; exact e.elim
    | some o =>
      rw [hG] at e
      cases o with
      | ins B fs =>
        have e2 : B = C := e.1
        have e3 := e.2
        subst e2
        obtain ⟨dx, ws, h1, h2, h3⟩ := hr a _ hG
        exact ⟨a, dx, ws, q, h1, look_none (by rw [h2]; exact e3)⟩
      | _ => exact e.elim
  | nd k ds =>
    cases k with
    | ins B ns =>
      rw [VR] at q
      obtain ⟨a, vs, rfl, ⟨h0, h1, dx, h2⟩, r⟩ := q
      obtain ⟨rfl, e⟩ := e
      exact ⟨a, dx, _, rfl, h2, look_none (by rw [zip_fst h1]; exact e)⟩
    | _ => exact e.elim
  | _ => exact e.elim
end
section
variable {X : Cx}
/-- o.n -/
def dFld (C : Addr) (n : Str) (T : DTE) : DTE := fun η G Q => T η G fun x G1 => match fldD C n x G1 with
  | some d => Q d G1
  | none => False
theorem ped_fld {C : Addr} {n : Str} {e : Expr} {T : DTE} {pos : Pos} (c : Cls X.K C) (na : NoAttr X.K C n) (he : PED X e T) (hb : attributeBase e n X.env (eval e X.env) = eval e X.env := by rfl) : PED X (.Attribute e n pos) (dFld C n T) :=
  PE.impI (pe_fld he hb) fun _ _ σ H Q _ ⟨η, G, P, hs, hr, t, k⟩ => ⟨η, G, _, hs, hr, t, fun d G1 v H1 p1 x1 r1 q1 => by
    cases e : fldD C n d G1 with
    | none => rw [e] at p1; exact p1.elim
    | some z =>
      rw [e] at p1
      obtain ⟨a, dx, ws, u, h1, h2, h3, h4⟩ := fldD_at r1 q1 e
      exact ⟨a, C, dx, ws, u, h1, h2, c, na, h3, k z G1 u H1 p1 x1 r1 h4⟩⟩
/-- o.n = value, o tracked -/
def dFldS (C : Addr) (n : Str) (To Tv : DTE) : DTS := fun F η G => Tv η G fun y G1 => To η G1 fun x G2 => match x with
  | .ref a => (match G2 a with
    | some (.ins B fs) => (B = C ∧ fs.length < 1000) ∧ F.nx η (up G2 a (.ins C (fput n y fs)))
    | _ => False)
  | _ => False
theorem psd_fld {C : Addr} {n : Str} {o e : Expr} {To Tv : DTE} {pos pos' : Pos} (c : Cls X.K C) (na : NoAttr X.K C n) (ho : PED X o To) (he : PED X e Tv) (hs : swapsWith e (some (.Attribute o n pos')) pos.line X.env = pure false := by rfl) : PSD X (.Assign [.Attribute o n pos'] e pos) (dFldS C n To Tv) :=
  PS.impI (ps_fld ho he hs) fun _ _ σ H E _ ⟨η, G, F, hs, hr, t, k⟩ => ⟨η, G, _, hs, hr, t, fun y G1 vy H1 p1 x1 r1 q1 => ⟨η, G1, _, hs.ext hr x1, r1, p1, fun d G2 v H2 p2 x2 r2 q2 => by
    cases d with
    | ref a =>
      rw [VR] at q2
      cases hG : G2 a with
      | none =>
        have : False := by simpa [hG] using p2
        exact this.elim
      | some ob =>
        cases ob with
        | ins B fs =>
          have p2 : (B = C ∧ fs.length < 1000) ∧ F.nx η (up G2 a (.ins C (fput n y fs))) := by simpa [hG] using p2
          obtain ⟨⟨rfl, hl⟩, p2⟩ := p2
          obtain ⟨dx, ws, h1, h2, h3⟩ := r2 a _ hG
          have x3 : Ext H2 G2 (upd H2 a (.ins B dx (putF n vy ws))) (up G2 a (.ins B (fput n y fs))) := .write hG
          obtain ⟨h4, h5⟩ := fput_vr n (q1.ext r1 x2) h2 h3
          have hl2 : ws.length < 1000 := by
            have := congrArg List.length h2
            rw [List.length_map, List.length_map] at this
            omega
          refine ⟨a, B, dx, ws, q2, h1, c, na, hl2, k.nx η _ σ _ p2 ((x1.trans x2).trans x3) (hs.ext hr ((x1.trans x2).trans x3)) (r2.write hG ⟨dx, _, upd_same, h4, h5.ext r2 x3⟩)⟩
        | _ =>
          have : False := by simpa [hG] using p2
          exact this.elim
    | _ => exact p2.elim⟩⟩
/-- C(..): the new instance stays tracked -/
def dMake (C : Addr) (sp : DRn) (T : DTA) : DTE := fun η G Q => T η G fun ds G1 => ∀ x, G1 x = none → sp (.ref x :: ds) (up G1 x (.ins C [])) fun d G2 => d = .non ∧ Q (.ref x) G2
theorem ped_make {C : Addr} {k : Nat} {f : Addr} {fd : FuncData} {ps : List Str} {sp : DRn} {x : Str} {p pos : Pos} {e : Expr} {es : List Expr} {T : DTA} (M : Mk X.K C f) (F : FnD X.prog X.w X.K X.mg X.base k f fd ps sp) (hr : Room (k + 1) X.A) (hm : X.mg x = some (.ref C)) (hb : Binds X.K fd ps [])
    (ha : PAD X (e :: es) T) (hg : Gl X x := by rfl) (hdb : (x == ("__debug__" : Str)) = false := by decide) (he : starEach (e :: es) X.env = (false, eval e X.env) :: starEach es X.env := by rfl) (hpl : (backTo pos (starEach es X.env)).any (·.1) = false := by rfl) :
    PED X (.Call (.Name x p) (e :: es) [] pos) (dMake C sp T) :=
  PE.impI (pe_make M F hr hg hm hb .nil (passX (X := X)) ha hdb he hpl) fun _ _ σ H Q _ ⟨η, G, P, hs, hr, t, k⟩ => ⟨η, G, _, hs, hr, t, fun ds G1 vs H1 p1 x1 r1 q1 => fun x dx hx hdx hne => by
    have x2 : Ext H1 G1 (upd H1 dx (.own x)) G1 := .laid hdx
    have r2 : HR X.ml (upd H1 dx (.own x)) G1 := r1.laid hdx
    have hx' : (upd H1 dx (.own x)) x = none := by rw [upd_ne hne.symm]; exact hx
    have x3 : Ext (upd H1 dx (.own x)) G1 (upd (upd H1 dx (.own x)) x (.ins C dx [])) (up G1 x (.ins C [])) := .new hx'
    have r3 := r2.new (u := .ins C []) hx' ⟨dx, [], upd_same, rfl, .nil⟩
    show liftN X.ml sp (.ref x :: (vs ++ [])) _ _
    rw [List.append_nil]
    exact ⟨.ref x :: ds, _, _, .cons (by rw [VR]) ((q1.ext r1 x2).ext r2 x3), r3, p1 x (r1.free hx), fun d G' v H' ⟨pd, pq⟩ xx rr qq => ⟨by subst pd; rw [VR] at qq; exact qq, k _ G' (.ref x) H' pq (((x1.trans x2).trans x3).trans xx) rr (by rw [VR])⟩⟩⟩
/-- o.m(..), m a def of the class -/
def dMeth (C : Addr) (m : Str) (sp : DRn) (To : DTE) (T : DTA) : DTE := fun η G Q => To η G fun x G1 => insD C m x G1 ∧ T η G1 fun ds G2 => sp (x :: ds) G2 Q
theorem ped_meth {C : Addr} {m : Str} {k : Nat} {f : Addr} {fd : FuncData} {ps : List Str} {sp : DRn} {apos pos : Pos} {o e : Expr} {es : List Expr} {To : DTE} {T : DTA} {pl : Sem Bool} (c : Cls X.K C) (hm : Meth X.K C m f) (F : FnD X.prog X.w X.K X.mg X.base k f fd ps sp) (hr : Room k X.A) (hb : Binds X.K fd ps [])
    (ho : PED X o To) (ha : PAD X (e :: es) T) (hst : starEach (e :: es) X.env = (false, eval e X.env) :: starEach es X.env := by rfl) (hpl : (backTo pos (starEach es X.env)).any (·.1) = false := by rfl)
    (ht : eval (.Call (.Attribute o m apos) (e :: es) [] pos) X.env = (do
      let ov ← eval o X.env
      standAt apos.atName
      let (g, first) ← holding [ov] (getMethod ov m pl)
      callWith pos g first (backTo pos (starEach (e :: es) X.env)) (backToKw pos (keywordEach [] X.env))) := by rfl) :
    PED X (.Call (.Attribute o m apos) (e :: es) [] pos) (dMeth C m sp To T) :=
  PE.impI (pe_meth (pl := pl) ho c hm F hr hb .nil (passX (X := X)) ha hst hpl ht) fun _ _ σ H Q _ ⟨η, G, P, hs, hr, t, k⟩ => ⟨η, G, _, hs, hr, t, fun d G1 v H1 ⟨pi, p1⟩ x1 r1 q1 => by
    obtain ⟨a, dx, ws, h1, h2, h3⟩ := insD_at r1 q1 pi
    refine ⟨a, dx, ws, h1, h2, h3, η, G1, _, hs.ext hr x1, r1, p1, fun ds G2 vs H2 p2 x2 r2 q2 => ?_⟩
    show liftN X.ml sp (v :: (vs ++ [])) _ _
    rw [List.append_nil]
    exact ⟨d :: ds, G2, P, .cons (q1.ext r1 x2) q2, r2, p2, fun d' G' v' H' p x r q => k d' G' v' H' p ((x1.trans x2).trans x) r q⟩⟩
theorem ped_meth0 {C : Addr} {m : Str} {k : Nat} {f : Addr} {fd : FuncData} {ps : List Str} {sp : DRn} {apos pos : Pos} {o : Expr} {To : DTE} {pl : Sem Bool} (c : Cls X.K C) (hm : Meth X.K C m f) (F : FnD X.prog X.w X.K X.mg X.base k f fd ps sp) (hr : Room k X.A) (hb : Binds X.K fd ps [])
    (ho : PED X o To)
    (ht : eval (.Call (.Attribute o m apos) [] [] pos) X.env = (do
      let ov ← eval o X.env
      standAt apos.atName
      let (g, first) ← holding [ov] (getMethod ov m pl)
      callWith pos g first (backTo pos (starEach [] X.env)) (backToKw pos (keywordEach [] X.env))) := by rfl) :
    PED X (.Call (.Attribute o m apos) [] [] pos) (dMeth C m sp To dNil) :=
  PE.impI (pe_meth0 (pl := pl) ho c hm F hr hb .nil (passX (X := X)) ht) fun _ _ σ H Q _ ⟨η, G, P, hs, hr, t, k⟩ => ⟨η, G, _, hs, hr, t, fun d G1 v H1 ⟨pi, p1⟩ x1 r1 q1 => by
    obtain ⟨a, dx, ws, h1, h2, h3⟩ := insD_at r1 q1 pi
    exact ⟨a, dx, ws, h1, h2, h3, [d], G1, P, .cons q1 .nil, r1, p1, fun d' G' v' H' p x r q => k d' G' v' H' p (x1.trans x) r q⟩⟩
end
end DL
/-! DLr: isinstance; enumerate, zip as they are walked. -/
namespace DL
open PySem PySem.Spec PyProof.Rows L2

/-! ### isinstance -/
/-- the type of a tree -/
def kTy (x : D) (G : DHp) : Option Value := match x with
  | .non => some (.type "NoneType")
  | .bl _ => some (.type "bool")
  | .int _ => some (.type "int")
  | .str _ => some (.type "str")
  | .nd .tup _ => some (.type "tuple")
  | .nd .lst _ => some (.type "list")
  | .nd .scr _ => some (.type "list")
  | .nd (.dK _) _ => some (.type "dict")
  | .nd (.ins C _) _ => some (.ref C)
  | .ref a => (match G a with
    | some (.lst _) => some (.type "list")
    | some (.dK _) => some (.type "dict")
    | some (.ins C _) => some (.ref C)
    | _ => none)
  | _ => none
def kCl (c : D) : Option Value := match c with
  | .ty n => some (.type n)
  | .ref C => some (.ref C)
  | _ => none
/-- a class whose instances tell their class -/
structure IsC (K : PySem.W.Frag) (C : Addr) : Prop where
  cl : Cls K C
  own : PySem.W.findIn K (.ref C) "__class__" = some (some (.builtin "object.__class__"))
  gs : PySem.W.specialIn K (.builtin "object.__class__") "__get__" = some (some (.builtin "getset_descriptor.__get__"))
  tk : PySem.W.takesIn K (.builtin "object.__class__") = some true
  ob : PySem.W.mroIn K C (.type "object") = some true
/-- the table tells the truth -/
def IsTab (K : PySem.W.Frag) (I : Value → Value → Option Bool) : Prop := ∀ t u b, I t u = some b → PySem.W.kitOne K t u = some b ∧ ∀ C, t = .ref C → IsC K C
def dIsi (I : Value → Value → Option Bool) : DRn := d2 fun x c G Q => match kTy x G, kCl c with
  | some t, some u => (match I t u with
    | some b => Q (.bl b) G
    | none => False)
  | _, _ => False
abbrev tyNames : List String := ["int", "bool", "str", "tuple", "list", "dict", "NoneType"]
/-- of the built-in types -/
def tyIs (a b : String) : Option Bool := if a = b then some true else if a ∈ tyNames ∧ b ∈ ["int", "bool", "str", "tuple", "list", "dict"] then some (a == "bool" && b == "int") else none
theorem tyIs_all : ∀ a ∈ tyNames, ∀ b ∈ ["int", "bool", "str", "tuple", "list", "dict"], a ≠ b → kitB a b = some (a == "bool" && b == "int") := by decide +kernel
theorem tyIs_kit {K : PySem.W.Frag} {a b : String} {r : Bool} (h : tyIs a b = some r) : PySem.W.kitOne K (.type a) (.type b) = some r := by
  unfold tyIs at h
  refine kit_ty ?_
  split at h
  · rename_i e
    subst e
    cases h
    unfold kitB
    rw [if_pos (by simp)]
  · rename_i e
    split at h
    · rename_i q
      rw [tyIs_all a q.1 b q.2 e]
      exact h
    · cases h
section
variable {X : Cx}
theorem kTy_at {K : Ml} {H : Hp} {G : DHp} {x : D} {v : V} {t : Value} (hr : HR K H G) (q : VR K H G x v) (e : kTy x G = some t) (ic : ∀ C, t = .ref C → IsC K.K C) : TyX K.K H v t := by
  cases x with
  | non => rw [VR] at q; subst q; cases e; exact .base .non
  | bl b => rw [VR] at q; subst q; cases e; exact .base (.bl _)
  | int b => rw [VR] at q; subst q; cases e; exact .base (.int _)
  | str b => rw [VR] at q; subst q; cases e; exact .base (.str _)
  | ty n => cases e
  | ref a =>
    rw [VR] at q
    subst q
    cases hG : G a with
    | none => simp [kTy, hG] at e
    | some o =>
      cases o with
      | lst ds =>
        have e : Value.type "list" = t := by simpa [kTy, hG] using e
        subst e
        obtain ⟨vs, h1, _⟩ := hr a _ hG
        exact .base (.lst h1)
      | dK kvs =>
        have e : Value.type "dict" = t := by simpa [kTy, hG] using e
        subst e
        obtain ⟨ws, h1, _⟩ := hr a _ hG
        exact .base (.dK h1)
      | dN kvs => simp [kTy, hG] at e
      | ins C fs =>
        have e : Value.ref C = t := by simpa [kTy, hG] using e
        subst e
        obtain ⟨dx, ws, h1, _⟩ := hr a _ hG
        have c := ic C rfl
        exact .base (.ins h1 c.cl c.own c.gs c.tk c.ob)
  | nd k ds =>
    rw [VR] at q
    obtain ⟨a, vs, rfl, hh, _⟩ := q
    cases k with
    | tup =>
      cases e
      rcases hh with (h | ⟨o, h⟩) | ⟨o, its, n, h1, h2, _⟩
      · exact .base (.tup h)
      · exact .fTuple h
      · exact .kTuple h1 h2
    | lst =>
      cases e
      exact .base (.lst hh.2)
    | scr =>
      cases e
      rcases hh with ⟨o, h⟩ | ⟨o, its, n, h1, h2, _⟩
      · exact .base (.frz h)
      · exact .kList h1 h2
    | dK ks =>
      cases e
      obtain ⟨_, o, h⟩ := hh
      exact .fDict h
    | dN ks => cases e
    | ins C ns =>
      cases e
      obtain ⟨_, _, dx, h⟩ := hh
      have c := ic C rfl
      exact .base (.ins h c.cl c.own c.gs c.tk c.ob)
theorem cd_isi {I : Value → Value → Option Bool} (hI : IsTab X.K I) : CallD X (.builtin "isinstance") (dIsi I) := calld2 fun pins s σ H G x y v u d e P Iv rx ry hr q1 q2 t => by
  cases ht : kTy d G with
  | none => rw [ht] at t; exact t.elim
  | some tt =>
    cases hc : kCl e with
    | none => rw [ht, hc] at t; exact t.elim
    | some uu =>
      rw [ht, hc] at t
      simp only at t
      cases hi : I tt uu with
      | none => rw [hi] at t; exact t.elim
      | some b =>
        rw [hi] at t
        obtain ⟨k1, k2⟩ := hI _ _ _ hi
        have cv : ClsV y uu := by
          cases e with
          | ty n => rw [VR] at q2; subst q2; cases hc; exact .ty n
          | ref C => rw [VR] at q2; subst q2; cases hc; exact .own C
          | _ => cases hc
        exact thn (call_isi pins s σ H [x, y] [v, u] (fun z H' => z = .bl b ∧ H' = H) Iv (.cons rx (.cons ry .nil)) ⟨x, y, tt, uu, b, rfl, cv, kTy_at hr q1 ht k2, k1, rfl, rfl⟩) fun w s' ⟨z, H', I', rz, e1, e2⟩ => by
          subst e1 e2
          exact ⟨.bl b, .bl b, _, _, I', rz, t, .refl _ _, hr, by rw [VR]⟩
end

/-! ### enumerate -/
/-- the items by their places -/
def enumL (ds : List D) : List D := ds.mapIdx fun i d => .nd .tup [.int (i : Nat), d]
def diEnum (T : DTA) : DTI := fun η G R => T η G fun ds G1 => match ds with
  | [d] => (match d with
    | .nd .tup xs => R (enumL xs) always G1
    | .nd .lst xs => R (enumL xs) always G1
    | .nd .scr xs => R (enumL xs) always G1
    | _ => False)
  | _ => False
theorem enumL_get {ds : List D} {i : Nat} {d : D} (h : (enumL ds)[i]? = some d) : ∃ x, ds[i]? = some x ∧ d = .nd .tup [.int (i : Nat), x] := by
  unfold enumL at h
  rw [List.getElem?_mapIdx] at h
  cases e : ds[i]? with
  | none => rw [e] at h; cases h
  | some x => rw [e] at h; cases h; exact ⟨x, rfl, rfl⟩
theorem enumL_len (ds : List D) : (enumL ds).length = ds.length := by unfold enumL; rw [List.length_mapIdx]
theorem Ite.itD {K : Ml} {H1 : Hp} {G1 : DHp} {a : Addr} {ds : List D} (h : ∀ H G, Ext H1 G1 H G → HR K H G → ∃ vs, SqL K.K H a vs ∧ VRs K H G ds vs) : ItD K H1 G1 (Ite K.K a) (enumL ds) always := by
  intro i H G x r o
  obtain ⟨vs, q, v⟩ := h H G x r
  refine ⟨fun d e => ?_, fun l => ⟨vs, q, by rw [v.length]; rw [enumL_len] at l; exact l⟩⟩
  obtain ⟨z, e1, rfl⟩ := enumL_get e
  obtain ⟨u, e2, q2⟩ := v.get e1
  refine ⟨⟨vs, u, q, e2⟩, fun y H' ⟨T, y2, e3, hT, e5, e4⟩ => ?_⟩
  subst e3 e5
  have e6 := e4 vs q
  rw [e2] at e6; cases e6
  have x2 : Ext H G (upd H T (.tup [.int (i : Nat), u])) G := .laid hT
  refine ⟨x2, r.laid hT, ?_⟩
  rw [VR]
  exact ⟨T, _, rfl, .inl (.inl upd_same), .cons (by rw [VR]) (.cons (q2.ext r x2) .nil)⟩
/-- the tuple at a, each item in a new pair -/
def IteT (K : PySem.W.Frag) (a : Addr) : It :=
  ⟨fun i H => ∃ (xs : List V) (x : V), SqT K H a xs ∧ xs[i]? = some x,
    fun i H v H' => ∃ T x, v = .ref T ∧ H T = none ∧ H' = upd H T (.tup [.int (i : Nat), x]) ∧ ∀ xs, SqT K H a xs → xs[i]? = some x,
    fun i H => ∃ xs : List V, SqT K H a xs ∧ xs.length ≤ i⟩
theorem IteT.itD {K : Ml} {H1 : Hp} {G1 : DHp} {a : Addr} {ds : List D} (h : ∀ H G, Ext H1 G1 H G → HR K H G → ∃ vs, SqT K.K H a vs ∧ VRs K H G ds vs) : ItD K H1 G1 (IteT K.K a) (enumL ds) always := by
  intro i H G x r o
  obtain ⟨vs, q, v⟩ := h H G x r
  refine ⟨fun d e => ?_, fun l => ⟨vs, q, by rw [v.length]; rw [enumL_len] at l; exact l⟩⟩
  obtain ⟨z, e1, rfl⟩ := enumL_get e
  obtain ⟨u, e2, q2⟩ := v.get e1
  refine ⟨⟨vs, u, q, e2⟩, fun y H' ⟨T, y2, e3, hT, e5, e4⟩ => ?_⟩
  subst e3 e5
  have e6 := e4 vs q
  rw [e2] at e6; cases e6
  have x2 : Ext H G (upd H T (.tup [.int (i : Nat), u])) G := .laid hT
  refine ⟨x2, r.laid hT, ?_⟩
  rw [VR]
  exact ⟨T, _, rfl, .inl (.inl upd_same), .cons (by rw [VR]) (.cons (q2.ext r x2) .nil)⟩
theorem turn_enT {P : Program} {w : World} {K : PySem.W.Frag} {elts : List Expr} {kk : Nat} {tpos : Pos} (a e it : Addr) (hai : a ≠ it) :
    Turn P w K (.Tuple elts kk tpos) (IteT K a) [e, it] e (fun i h => (∃ old, IsEnum h e it ((i : Nat) : Int) old) ∧ h.IsTupleIter it a i ∧ e ≠ it ∧ e ≠ a) where
  mem := by simp
  obj := fun i h ⟨⟨old, he⟩, ⟨o, ho, hc, hd⟩, _⟩ b hb => by
    rcases (by simpa using hb : b = e ∨ b = it) with z | z
    · subst z; exact ⟨_, he, fun v q => nomatch q⟩
    · subst z; exact ⟨o, ho, fun v q => by rw [hd] at q; cases q⟩
  keep := fun i h h' ⟨⟨old, he⟩, hi, hne⟩ k => ⟨⟨old, k e (by simp) _ he⟩, hi.at fun o q => k it (by simp) o q, hne⟩
  item := by
    intro X hP hw hK hc i pins s σ H E I hf ⟨⟨old, he⟩, hit, hne, hea⟩ ⟨xs, x, hq, hx⟩
    subst hP hw hK
    obtain ⟨its, rv, p, hz⟩ := I.tuple hq
    obtain ⟨u, hu, ru⟩ := rv.get hx
    have hel : e < s.heap.objs.size := Heap.lt_size he
    have hil : it < s.heap.objs.size := by obtain ⟨_, q, _⟩ := hit; exact Heap.lt_size q
    have hlt : i < its.toArray.size := by
      rw [List.size_toArray]
      exact (List.getElem?_eq_some_iff.mp hu).1
    have D := Draws.tuple (prog := X.prog) (w := X.w) (A := X.A.in1) (I.ok.hd hc) it a hai its.toArray
    refine wpAny_pyNext_enum_itemD D he ⟨hit, p⟩ hlt hne (by simp only [List.mem_cons, List.not_mem_nil, or_false, not_or]; exact ⟨hne, hea⟩) fun x' h' tk hP ho hs' hT hsz hk => ?_
    have e0 : x' = u := by
      rw [List.getElem?_toArray] at hP
      rw [hu] at hP; cases hP; rfl
    subst e0
    refine ⟨_, rfl, wpAny_letOwnedTupleGo_enum (s := { s with heap := h', toks := tk + 1 }) ho fun h'' he' sb => ?_⟩
    have hT2 : h''.get? s.heap.objs.size = some { cls := .type "tuple", data := .seq #[.int i tk, x'] } := (sb.2 _ (Nat.ne_of_gt hel)).trans hT
    have new : ObjOk X.prog X.w (upd H s.heap.objs.size (.tup [.int (i : Nat), x])) h'' s.heap.objs.size (.tup [.int (i : Nat), x]) :=
      ⟨by show 2 ≤ sizeLine; decide, [.int i tk, x'], .cons ⟨_, rfl⟩ (.cons ru .nil), ⟨_, hT2, rfl, _, rfl⟩⟩
    have I1 : Inv X pins σ (upd H s.heap.objs.size (.tup [.int (i : Nat), x])) { s with heap := h'', toks := tk + 1 } :=
      I.turnedNew (ch := [e, it]) (fun b ob hb q => by
        have hb1 : b ≠ e := fun z => hb (by simp [z])
        have hb2 : b ≠ it := fun z => hb (by simp [z])
        exact (sb.2 b hb1).trans (hk b ob hb1 hb2 q)) hf (Nat.le_refl _) new
    refine ⟨.ref s.heap.objs.size, _, I1, rfl, ⟨_, x, rfl, I.hok.fresh (Nat.le_refl _), rfl, fun ys hy => by rw [I.tuple_inj hy hq]; exact hx⟩, ⟨⟨x', ?_⟩, hs'.1.at fun o q => (sb.2 it (Ne.symm hne)).trans q, hne, hea⟩, fun b hb => ?_⟩
    · have e1 : ((i + 1 : Nat) : Int) = (i : Int) + 1 := by omega
      show IsEnum h'' e it ((i + 1 : Nat) : Int) x'
      rw [e1]; exact he'
    have hb' : b < s.heap.objs.size := by
      rcases (by simpa using hb : b = e ∨ b = it) with z | z
      · subst z; exact hel
      · subst z; exact hil
    rw [upd_ne (Nat.ne_of_lt hb')]
    exact (hf b hb).1
  done := by
    intro X hP hw hK hc i pins s σ H E I hf ⟨⟨old, he⟩, hit, hne, hea⟩ ⟨xs, hq, hx⟩
    subst hP hw hK
    obtain ⟨its, rv, p, hz⟩ := I.tuple hq
    obtain ⟨f0, f1, f2, f3, f4, f5⟩ := hf it (by simp)
    have hl := rv.length
    have hT : s.TypeIs (.ref e) "enumerate" := ⟨_, he, rfl⟩
    unfold pyNext
    refine wpAny_bind (wpAny_attempt (wpAny_callSpecial?_slot (name := Str.ofString "__next__") hT F.slot_enumerate_next (wpAny_call_entry F.slot_enumerate_next hT F.entry_enumerate_next ?_ (F.args_enumerate_next_1 _))))
    show wpAny _ _ (field (.ref e) 2 >>= _) _ _ _
    refine wpAny_bind (wpAny_field he rfl (x := .ref it) rfl ?_)
    refine wpAny_bind (wpAny_nextOf_tuple_end (I.ok.hd hc) hit p (by simp; omega) fun h' x hx1 hx2 => ?_)
    obtain ⟨o, ho, hc2⟩ := hx2
    refine wpAny_bind (wpAny_isInstance (T := "StopIteration") (b := true) ⟨o, ho, hc2⟩ isSubtype_stop ?_)
    exact wpAny_pure ⟨rfl, I.turned (t' := s.toks) (fun b o hb q => hx1 b o hb q) f0 f1 f3 f4 f5⟩
  self := fun A i s Q E ⟨⟨_, he⟩, _⟩ h => wpAny_pyIter_enum he h
set_option maxHeartbeats 8000000 in
theorem meets_en1 {v : Value} {o : Obj} {S : Heap → Prop} (B : Begins v o S) :
    Meets (Builtin.«enumerate.__new__» ⟨[.type "enumerate", v], []⟩) (fun _ R s => S s.heap ∧
      R (.ok (.ret (.ref (s.heap.push o).objs.size))) { s with heap := (s.heap.push o).push { cls := .type "enumerate", data := .fields #[.none, .bool false, .ref s.heap.objs.size, rawInt 0, .none, .none] } }) :=
  .of_wp fun prog w A R s ⟨h1, h⟩ => by
    obtain ⟨hp, g, d, tk, os⟩ := s
    have hsub := sub_enumerate
    have q1 : ∀ {A' : Around} {E : Value → Shared → Prop} {Q : Value → Shared → Prop}, Q (.ref hp.objs.size) ⟨hp.push o, g, d, tk, os⟩ → wpAny (model prog w) A' (pyIter v) Q E ⟨hp, g, d, tk, os⟩ :=
      fun q => B.iter prog w _ _ ⟨hp, g, d, tk, os⟩ _ h1 q
    wp_walk using q1
    refine wpAny_stack_any fun st => wpAny_pure ?_
    split
    · rename_i c _ _ _ _ _
      cases (c == Value.type "enumerate")
      · wp_walk using q1
        exact ⟨_, rfl, h⟩
      · wp_walk using q1
        exact ⟨_, rfl, h⟩
    · wp_walk using q1
      exact ⟨_, rfl, h⟩
/-- enumerate(v) -/
theorem call_en1 {prog : Program} {w : World} {A : Around} {E : Value → Shared → Prop} {s : Shared} {v : Value} {o : Obj} {S : Heap → Prop} {Q : Value → Shared → Prop} (B : Begins v o S) (h1 : S s.heap)
    (h : ∀ h', IsEnum h' (s.heap.objs.size + 1) s.heap.objs.size 0 .none → h'.get? s.heap.objs.size = some o → (∀ b u, s.heap.get? b = some u → h'.get? b = some u) → Q (.ref (s.heap.objs.size + 1)) { s with heap := h' }) :
    wpAny (model prog w) A (call (.type "enumerate") [v]) Q E s := by
  refine callType_new F.called_enumerate (by decide) (F.typeCall_enumerate_1 _) (F.newCall_enumerate_1 _) (fun obj => F.args_object_init_2 obj _) F.entry_enumerate_new (meets_en1 B) ⟨h1, ?_⟩
  have hz : (s.heap.push o).objs.size = s.heap.objs.size + 1 := Heap.size_push ..
  have he : IsEnum ((s.heap.push o).push { cls := .type "enumerate", data := .fields #[.none, .bool false, .ref s.heap.objs.size, rawInt 0, .none, .none] }) (s.heap.objs.size + 1) s.heap.objs.size 0 .none := by
    have q := Heap.get?_push_size (s.heap.push o) (o := { cls := .type "enumerate", data := .fields #[.none, .bool false, .ref s.heap.objs.size, rawInt 0, .none, .none] }) rfl
    rw [hz] at q; exact q
  show _ ∧ _
  rw [hz]
  exact ⟨⟨_, he, rfl⟩, h _ he (Heap.get?_push_of_some _ (Heap.get?_push_size _ B.free)) fun b u x => Heap.get?_push_of_some _ (Heap.get?_push_of_some _ x)⟩
section
variable {X : Cx}
theorem pid_enum {e : Expr} {T : DTA} {p pos tpos : Pos} {elts : List Expr} {kk : Nat} (hm : X.mg "enumerate" = none) (ha : PAD X [e] T) (hg : Gl X "enumerate" := by rfl) (hs : starEach [e] X.env = [(false, eval e X.env)] := by rfl) :
    PID X (.Tuple elts kk tpos) (.Call (.Name "enumerate" p) [e] [] pos) (diEnum T) := by
  refine ⟨fun pins s σ H R I ⟨η, G, P, hs', hr, t, k⟩ => ?_⟩
  refine Call_ (ld_blt I hg hm boot_enumerate (PyProof.Rows.callWith_type1 (thn (ha.run pos pins s σ H (fun vs H1 => ∃ ds G1, (match ds with
    | [d] => (match d with
      | .nd .tup xs => P (enumL xs) always G1
      | .nd .lst xs => P (enumL xs) always G1
      | .nd .scr xs => P (enumL xs) always G1
      | _ => False)
    | _ => False) ∧ Ext H G H1 G1 ∧ HR X.ml H1 G1 ∧ VRs X.ml H1 G1 ds vs) I ⟨η, G, _, hs', hr, t, fun ds G1 vs H1 p x r q => ⟨ds, G1, p, x, r, q⟩⟩) fun us s1 ⟨vs, H1, I1, r1, ds, G1, p, x, r, q⟩ => ?_) hs rfl))
  match ds, p, q with
  | [d], p, q =>
    obtain ⟨v, r', rfl, q1, q2⟩ := q.uncons
    cases q2.nil_of
    obtain ⟨u, rfl, ru⟩ := r1.one
    have fin2 : ∀ b, b ∈ [s1.heap.objs.size + 1, s1.heap.objs.size] → FpOk X pins H1 b := fun b hb => by
      have hle : s1.heap.objs.size ≤ b := by
        rcases (by simpa using hb : b = s1.heap.objs.size + 1 ∨ b = s1.heap.objs.size) with z | z <;> omega
      exact I1.fpOk hle (I1.hok.fresh hle)
    have doL : ∀ (a : Addr) (ws : List V) (xs : List D), v = .ref a → SqL X.K H1 a ws → (∀ H G, Ext H1 G1 H G → HR X.ml H G → ∃ vs, SqL X.K H a vs ∧ VRs X.ml H G xs vs) → P (enumL xs) always G1 →
        wpAny (model X.prog X.w) X.A (call (.type "enumerate") [u]) (fun v s1 => wpAny (model X.prog X.w) X.A (pyIter v) (PIE X pins σ (.Tuple elts kk tpos) R) X.xe s1) X.xe s1 := by
      intro a ws xs e hq hh p
      subst e
      cases ru
      obtain ⟨its, rv, p', hz⟩ := I1.list hq
      refine call_enumerate_list p'.isList fun h' he hit hsz hk => wpAny_pyIter_enum he ?_
      have I2 : Inv X pins σ H1 { s1 with heap := h' } := I1.kept (t' := s1.toks) hk
      exact ⟨s1.heap.objs.size + 1, [s1.heap.objs.size + 1, s1.heap.objs.size], _, _, H1, rfl, I2, turn_enum a (s1.heap.objs.size + 1) s1.heap.objs.size, ⟨⟨.none, he⟩, hit, Nat.succ_ne_self _⟩, fin2, k _ _ G1 _ H1 p x r (Ite.itD hh)⟩
    cases d with
    | nd kd xs =>
      rw [VR] at q1
      obtain ⟨a, ws, e, hq, vr⟩ := q1
      cases kd with
      | tup =>
        subst e
        cases ru
        obtain ⟨its, rv, p', hz⟩ := I1.tuple hq
        have p2 : s1.heap.IsTuple a its.toArray := p'
        have hal : a < s1.heap.objs.size := by obtain ⟨_, z, _⟩ := p2; exact Heap.lt_size z
        refine call_en1 (begins_tuple a its.toArray) p2 fun h' he hit hk => wpAny_pyIter_enum he ?_
        have I2 : Inv X pins σ H1 { s1 with heap := h' } := I1.kept (t' := s1.toks) hk
        exact ⟨s1.heap.objs.size + 1, [s1.heap.objs.size + 1, s1.heap.objs.size], _, _, H1, rfl, I2, turn_enT a (s1.heap.objs.size + 1) s1.heap.objs.size (Nat.ne_of_lt hal), ⟨⟨.none, he⟩, ⟨_, hit, rfl, rfl⟩, Nat.succ_ne_self _, Nat.ne_of_gt (Nat.lt_succ_of_lt hal)⟩, fin2,
          k _ _ G1 _ H1 p x r (IteT.itD fun H' G' x' r' => ⟨ws, Held.ext (k := .tup) r x' hq, vr.ext r x'⟩)⟩
      | lst => exact doL a ws xs e (held_lst hq (.inl rfl)) (fun H' G' x' r' => ⟨ws, held_lst (hq.ext r x') (.inl rfl), vr.ext r x'⟩) p
      | scr => exact doL a ws xs e (held_lst hq (.inr rfl)) (fun H' G' x' r' => ⟨ws, held_lst (hq.ext r x') (.inr rfl), vr.ext r x'⟩) p
      | _ => exact p.elim
    | _ => exact p.elim
  | [], p, _ => exact p.elim
  | _ :: _ :: _, p, _ => exact p.elim
end
end DL
/-! DLs: sorted(d.items()). -/
namespace DL
open PySem PySem.Spec PyProof.Rows L2


/-- a frozen dict's items, as pairs -/
def prD (ps : List (D × D)) : List D := ps.map fun p => .nd .tup [p.1, p.2]
/-- what is asked of things that are sorted -/
def Srts (ds : List D) : Prop := plainDs ds = true ∧ PySem.W.AllAlike (ds.map py) ∧ PySem.W.Sortable (ds.map py) ∧ ∀ d ∈ ds, (py d).depth ≤ 60
section
variable {X : Cx}
/-- d.items(), as a thing -/
def tView (K : Ml) (T : DTE) : TE := fun σ H Q => ∃ η G P, SR K H G σ η ∧ HR K H G ∧ T η G P ∧
  ∀ d G1 v H1, P d G1 → Ext H G H1 G1 → HR K H1 G1 → VR K H1 G1 d v → ∃ ps a, dicP d = some ps ∧ v = .ref a ∧ ∀ r, H1 r = none → Q (.ref r) (upd H1 r (L2.DX.itemsO r a))
theorem pe_view {e : Expr} {T : DTE} {apos cpos : Pos} (he : PED X e T) (hbase : attributeBase e "items" X.env (eval e X.env) = eval e X.env := by rfl) (hline : (apos.endLine == cpos.line) = true := by rfl) :
    PE X (.Call (.Attribute e "items" apos) [] [] cpos) (tView X.ml T) := by
  refine ⟨fun pins s σ H Q I ⟨η, G, P, hs, hr, t, k⟩ => ?_⟩
  refine wpAny_Call_method (T := "dict") (id := "dict.items") hbase rfl hline F.plainAttrs_dict F.slot_dict_items F.type_dict_items (thn (he.run pins s σ H (fun v H1 => ∃ d G1, P d G1 ∧ Ext H G H1 G1 ∧ HR X.ml H1 G1 ∧ VR X.ml H1 G1 d v) I ⟨η, G, _, hs, hr, t, fun d G1 v H1 p x r q => ⟨d, G1, p, x, r, q⟩⟩) fun u s1 ⟨x, H1, I1, rx, d, G1, p, x1, r1, q1⟩ => ?_)
  obtain ⟨ps, a0, e, ev, kk⟩ := k d G1 x H1 p x1 r1 q1
  obtain ⟨h1, h2⟩ := tyD_is I1 r1 q1 rx (dicP_ty e G1)
  obtain ⟨a, es, ep, kv, e0, ent, pr, hl, ra, hra⟩ := dicP_at I1 r1 q1 e
  rw [ev] at e0
  cases e0
  subst ev
  cases (show u = Value.ref a0 from rx)
  refine ⟨h1, h2, ?_⟩
  have hm := ra.raw I1
  have hf : H1 s1.heap.objs.size = none := I1.hok.fresh (Nat.le_refl _)
  show wpAny _ _ (callWith cpos (.builtin "dict.items") [.ref a0] [] []) _ X.xe s1
  refine method_meetsIn F.slot_dict_items F.entry_dict_items rfl (PySem.evalArgs_none ⟨rfl, h1, F.args_dict_items_1 _, _, meets_dict_items_raw a0 ra.2, ⟨es, ep, hm⟩, ?_⟩)
  exact ⟨.ref s1.heap.objs.size, upd H1 s1.heap.objs.size (L2.DX.itemsO s1.heap.objs.size a0), I1.laid (t' := s1.toks) (fun b o q => Heap.get?_push_of_some _ q) (Nat.le_refl _) (L2.DX.itemsO_ok (Heap.get?_push_size _ rfl)), rfl, kk _ hf⟩
def rSortV (K : Ml) : List V → Hp → VK → Prop := fun xs H Q => ∃ r a d G ps, xs = [.ref r] ∧ H r = some (L2.DX.itemsO r a) ∧ HR K H G ∧ VR K H G d (.ref a) ∧ dicP d = some ps ∧ Srts (prD ps) ∧
  ∀ H' l, G l = none → Ext H G H' (up G l (.lst (srt (prD ps)))) → HR K H' (up G l (.lst (srt (prD ps)))) → Q (.ref l) H'
theorem call_sortV (hu : X.A.units + 64 < cLine) (hc : X.calm = true) : CallR X (.builtin "sorted") (rSortV X.ml) := by
  intro pins s σ H xs us Q I rv ⟨r, a, d, G, ps, exs, hH, hr, q, e, ⟨p1, p2, p3, p4⟩, k⟩
  subst exs
  obtain ⟨u, rfl, ru⟩ := rv.one
  cases ru
  have view : s.heap.IsItemsView r a := (show ObjOk X.prog X.w H s.heap r (L2.DX.itemsO r a) from I.hok r _ hH).1
  obtain ⟨a', es, ep, kv, e0, ent, pr, hl, ra, hra⟩ := dicP_at I hr q e
  cases e0
  have raw := ra.raw I
  have hn : es.size ≤ sizeLine := by
    rcases ra.1 with h | ⟨o, kvs, h, hx, hd⟩
    · cases d with
      | nd kd ds =>
        cases kd with
        | dN ks =>
          rw [VR] at q
          obtain ⟨a2, vs, e2, ⟨_, xs, es2, ep2, g1, g2, g3, g4, g5, g6, _⟩, _⟩ := q
          cases e2
          rw [h] at g1
          have e3 : rawO a es ep = rawO a es2 ep2 := Option.some.inj g1
          obtain ⟨φ, _, _⟩ := (show ObjOk X.prog X.w H s.heap a (rawO a es2 ep2) from e3 ▸ I.hok a _ h)
          obtain ⟨o1, w1, _, w3⟩ := raw
          obtain ⟨o2, w4, _, w6⟩ := φ
          rw [w1] at w4
          cases w4
          rw [w3] at w6
          cases w6
          have := congrArg List.length g3
          rw [Array.length_toList, List.length_map] at this
          have g7 := congrArg List.length g4
          rw [List.length_map] at g7
          omega
        | dK ks =>
          rw [VR] at q
          obtain ⟨a2, vs, e2, ⟨_, o, ho⟩, _⟩ := q
          cases e2
          rw [h] at ho
          cases ho
        | _ => cases e
      | _ => cases e
    · obtain ⟨hs, hgd, hx, es2, ep2, ws, hdt, hsz, kv2, hm⟩ := I.frzK h
      rw [hd] at hdt
      cases hdt
      obtain ⟨_, z, _⟩ := I.hok a _ h
      rw [hsz]
      exact z
  refine Calls.call_function_entry PyProof.Rows.kind_sorted PyProof.Rows.plain_sorted PyProof.Rows.entry_sorted (PyProof.Rows.args_sorted1 _) ?_
  unfold Builtin.«sorted»
  refine wpAny_bind (m := checkCount "sorted" 1 1 _) (wpAny_pure ?_)
  refine wpAny_bind (PySem.W.dil_collect (A := X.A.in1) (es := es) (ep := ep) (I.ok.hd hc) view raw hn fun h' tk as hk hla hG => ?_)
  have I1 : Inv X pins σ H { s with heap := h', toks := tk } := I.kept hk
  have nd : as.Nodup := List.Pairwise.imp (fun h => Nat.ne_of_lt h) hG.rise
  obtain ⟨H2, I2, keep, laid⟩ := L2.DX.takeT (P := fun b vs => ∃ (j : Nat) (x y : V), as[j]? = some b ∧ kv[j]? = some (x, y) ∧ vs = [x, y]) I as H I1 nd fun b hb => by
    have hle : s.heap.objs.size ≤ b := Nat.le_of_lt (hG.above b hb)
    obtain ⟨j, hj⟩ := List.mem_iff_getElem?.mp hb
    obtain ⟨hj2, hob⟩ := hG.pairs j b hj
    have hjk : j < kv.length := by rw [ent.size]; exact hj2
    have hkj : kv[j]? = some (kv[j]) := List.getElem?_eq_getElem hjk
    obtain ⟨r1, r2⟩ := ent.at hkj hj2
    exact ⟨hle, I.hok.fresh hle, [kv[j].1, kv[j].2], ⟨j, _, _, hj, hkj, rfl⟩, fun H3 => ⟨by show 2 ≤ sizeLine; decide, [es[j].key, es[j].val], .cons r1 (.cons r2 .nil), ⟨_, hob, rfl, _, rfl⟩⟩⟩
  have x2 : Ext H G H2 G := ⟨fun b o h n => ⟨keep b o h, n⟩⟩
  have hr2 : HR X.ml H2 G := fun b o h => by
    have h1 := hr b o h
    obtain ⟨z, hz⟩ := h1.some
    exact h1.ext hr x2 ((keep b z hz).trans hz.symm)
  have pr2 := pr.ext hr x2
  have hlen : (as.map Value.ref).length ≤ sizeLine := by rw [List.length_map, hla]; exact hn
  have vrs : VRs X.ml H2 G (prD ps) (as.map V.ref) := by
    have go : ∀ (n : Nat) (ps' : List (D × D)) (as' : List Addr), ps'.length = as'.length → (∀ j p, ps'[j]? = some p → ps[n + j]? = some p) → (∀ j b, as'[j]? = some b → as[n + j]? = some b) → VRs X.ml H2 G (prD ps') (as'.map V.ref) := by
      intro n ps'
      induction ps' generalizing n with
      | nil =>
        intro as' h1 _ _
        cases as' with
        | nil => exact .nil
        | cons _ _ => simp at h1
      | cons p ps' ih =>
        intro as' h1 h2 h3
        cases as' with
        | nil => simp at h1
        | cons b as' =>
          have hb : as[n]? = some b := by simpa using h3 0 b rfl
          have hp : ps[n]? = some p := by simpa using h2 0 p rfl
          obtain ⟨x, y, e1, q1, q2⟩ := pr2.get hl hp
          obtain ⟨vs, ⟨j, x', y', g1, g2, g3⟩, g4⟩ := laid b (List.mem_of_getElem? hb)
          have hjn : j = n := by
            obtain ⟨l1, l3⟩ := List.getElem?_eq_some_iff.mp g1
            obtain ⟨l2, l4⟩ := List.getElem?_eq_some_iff.mp hb
            have pw := List.pairwise_iff_getElem.mp hG.rise
            rcases Nat.lt_trichotomy j n with h | h | h
            · have := pw j n l1 l2 h
              rw [l3, l4] at this
              exact absurd this (Nat.lt_irrefl _)
            · exact h
            · have := pw n j l2 l1 h
              rw [l3, l4] at this
              exact absurd this (Nat.lt_irrefl _)
          subst hjn
          rw [e1] at g2
          cases g2
          subst g3
          refine .cons ?_ (ih (j + 1) as' (by simpa using h1) (fun i z hz => by have := h2 (i + 1) z (by simpa using hz); rw [show j + 1 + i = j + (i + 1) by omega]; exact this) fun i z hz => by have := h3 (i + 1) z (by simpa using hz); rw [show j + 1 + i = j + (i + 1) by omega]; exact this)
          rw [VR]
          exact ⟨b, _, rfl, .inl (.inl g4), .cons q1 (.cons q2 .nil)⟩
    exact go 0 ps as (by rw [hla, hl, ent.size]) (fun j p h => by rw [Nat.zero_add]; exact h) fun j b h => by rw [Nat.zero_add]; exact h
  have rvs : Vals (as.map V.ref) (as.map Value.ref) := by
    have go : ∀ l : List Addr, Vals (l.map V.ref) (l.map Value.ref) := fun l => by
      induction l with
      | nil => exact .nil
      | cons b l ih => exact .cons rfl ih
    exact go as
  refine wpAny_bind (wpAny_newList ?_ hlen)
  have hoL : (h'.push (seqObj "list" (as.map Value.ref).toArray 0)).get? h'.objs.size = some (seqObj "list" (as.map Value.ref).toArray 0) := Heap.get?_push_size _ rfl
  show wpAny _ _ _ _ _ { s with heap := h'.push (seqObj "list" (as.map Value.ref).toArray 0), toks := tk }
  have er : PySem.W.EachIs (fun v b => ∃ rs, Reads (h'.push (seqObj "list" (List.map Value.ref as).toArray 0)) v (py b) rs ∧ h'.objs.size ∉ rs) (as.map Value.ref) (prD ps) := (each_reads I2 vrs rvs p1).mono fun u b ⟨l, rd⟩ => ⟨l, PyProof.Rows.Reads.keeps (fun b o q => Heap.get?_push_of_some _ q) rd, fun hm => by
    obtain ⟨o, ho⟩ := PyProof.On.reads_mem_get rd _ hm
    exact absurd (Heap.lt_size ho) (Nat.lt_irrefl _)⟩
  have al : (prD ps).length = as.length := by rw [prD, List.length_map, hla, hl, ent.size]
  have hlen2 : (prD ps).length ≤ sizeLine := by rw [al, hla]; exact hn
  refine wpAny_bind (wpAny_holding (PySem.W.list_sort_data (s := { s with heap := h'.push (seqObj "list" (as.map Value.ref).toArray 0), toks := tk }) (R := fun u d => ∃ v, RelV v u ∧ VR X.ml H2 G d v) (enc := py) (bs := prD ps) hoL (each_vr vrs rvs) er p2 p3 hlen2 (fun b hb => by have := p4 b hb; show X.A.units + 1 + 1 + _ < _; omega) fun out ho eo => ?_))
  obtain ⟨ws, rw', qs'⟩ := each_back eo
  obtain ⟨e', he'⟩ := PyProof.Rows.sortedHeap_at (vs := as.map Value.ref) (out := List.toArray out) hoL
  have hp : H2 h'.objs.size = none := I2.hok.fresh (Nat.le_refl _)
  have x3 : Ext H2 G (upd H2 h'.objs.size (.lst ws)) (up G h'.objs.size (.lst (srt (prD ps)))) := .new hp
  refine wpAny_pure ⟨_, rfl, .ref h'.objs.size, upd H2 h'.objs.size (.lst ws), I2.laid (t' := tk) (fun b u e => ?_) (Nat.le_refl _)
    (show ObjOk X.prog X.w _ _ _ (.lst ws) from ⟨by rw [rw'.length, ho]; exact hlen2, out, e', rw', he'⟩), rfl, k _ _ (hr2.free hp) (x2.trans x3) (hr2.new hp ⟨ws, upd_same, qs'.ext hr2 x3⟩)⟩
  have hb : b < h'.objs.size := Heap.lt_size e
  rw [PyProof.Rows.sortedHeap_old (Nat.ne_of_lt hb) (by rw [size_push']; exact Nat.lt_succ_of_lt hb)]
  exact Heap.get?_push_of_some _ e
/-- sorted(d.items()): tracked -/
def dSortedI (T : DTE) : DTE := fun η G Q => T η G fun d G1 => match dicP d with
  | some ps => Srts (prD ps) ∧ ∀ p, G1 p = none → Q (.ref p) (up G1 p (.lst (srt (prD ps))))
  | none => False
theorem ped_sortedI {e : Expr} {T : DTE} {p apos cpos pos : Pos} (hu : X.A.units + 64 < cLine) (hc : X.calm = true) (hm : X.mg "sorted" = none) (hv : bootBuiltins "sorted" = some (.builtin "sorted")) (he : PED X e T) (hg : Gl X "sorted" := by rfl)
    (hbase : attributeBase e "items" X.env (eval e X.env) = eval e X.env := by rfl) (hline : (apos.endLine == cpos.line) = true := by rfl)
    (h1 : starEach [.Call (.Attribute e "items" apos) [] [] cpos] X.env = (false, eval (.Call (.Attribute e "items" apos) [] [] cpos) X.env) :: starEach [] X.env := by rfl) (h2 : (backTo pos (starEach [] X.env)).any (·.1) = false := by rfl) :
    PED X (.Call (.Name "sorted" p) [.Call (.Attribute e "items" apos) [] [] cpos] [] pos) (dSortedI T) :=
  PE.impI (pe_callB (call_sortV hu hc) hg hm hv (pa_cons (pe_view he hbase hline) pa_nil h1) (by decide) (by decide) h1 h2) fun _ _ σ H Q _ ⟨η, G, P, hs, hr, t, k⟩ => by
    refine ⟨η, G, _, hs, hr, t, fun d G1 v H1 p1 x1 r1 q1 => ?_⟩
    split at p1
    · rename_i ps e1
      obtain ⟨ss, p1⟩ := p1
      have hv : ∃ a, v = .ref a := by
        cases d with
        | nd kd ds => rw [VR] at q1; obtain ⟨a, _, e2, _⟩ := q1; exact ⟨a, e2⟩
        | _ => cases e1
      obtain ⟨a, rfl⟩ := hv
      refine ⟨ps, a, e1, rfl, fun r hr0 => ?_⟩
      have x2 : Ext H1 G1 (upd H1 r (L2.DX.itemsO r a)) G1 := .laid hr0
      exact ⟨r, a, d, G1, ps, rfl, upd_same, r1.laid hr0, q1.ext r1 x2, e1, ss, fun H' l hl x3 r3 => k (.ref l) _ (.ref l) H' (p1 l hl) ((x1.trans x2).trans x3) r3 (by rw [VR])⟩
    · exact p1.elim
end
end DL
/-! DLt: zip; starred arguments; a dict's copy. -/
namespace DL
open PySem PySem.Spec PyProof.Rows L2

/-! ### zip -/
def zipL (xs ys : List D) : List D := List.zipWith (fun a b => D.nd .tup [a, b]) xs ys
def diZip (T : DTA) : DTI := fun η G R => T η G fun ds G1 => match ds with
  | [.nd .tup xs, .nd .tup ys] => R (zipL xs ys) always G1
  | [.nd .lst xs, .nd .lst ys] => R (zipL xs ys) always G1
  | _ => False
theorem zipL_get {xs ys : List D} {i : Nat} {d : D} (h : (zipL xs ys)[i]? = some d) : ∃ x y, xs[i]? = some x ∧ ys[i]? = some y ∧ d = .nd .tup [x, y] := by
  unfold zipL at h
  rw [List.getElem?_zipWith] at h
  cases e1 : xs[i]? with
  | none => rw [e1] at h; cases h
  | some x =>
    cases e2 : ys[i]? with
    | none => rw [e1, e2] at h; cases h
    | some y => rw [e1, e2] at h; cases h; exact ⟨x, y, rfl, rfl, rfl⟩
theorem zipL_stop {xs ys : List D} {i : Nat} (h : (zipL xs ys).length ≤ i) : xs.length ≤ i ∨ ys.length ≤ i := by
  unfold zipL at h
  rw [List.length_zipWith] at h
  omega
theorem ItzT.itD {K : Ml} {H1 : Hp} {G1 : DHp} {a b : Addr} {xs ys : List D} (h : ∀ H G, Ext H1 G1 H G → HR K H G → ∃ vs ws, SqT K.K H a vs ∧ SqT K.K H b ws ∧ VRs K H G xs vs ∧ VRs K H G ys ws) : ItD K H1 G1 (RZ.ItzT K.K a b) (zipL xs ys) always := by
  intro i H G x r o
  obtain ⟨vs, ws, qa, qb, va, vb⟩ := h H G x r
  refine ⟨fun d e => ?_, fun l => ⟨vs, ws, qa, qb, by rw [va.length, vb.length]; exact zipL_stop l⟩⟩
  obtain ⟨p, q, e1, e2, rfl⟩ := zipL_get e
  obtain ⟨u, g1, r1⟩ := va.get e1
  obtain ⟨u2, g2, r2⟩ := vb.get e2
  refine ⟨⟨vs, ws, u, u2, qa, qb, g1, g2⟩, fun y H' ⟨T, z1, z2, e3, hT, e5, k1, k2⟩ => ?_⟩
  subst e3 e5
  have e6 := k1 vs qa
  have e7 := k2 ws qb
  rw [g1] at e6; cases e6
  rw [g2] at e7; cases e7
  have x2 : Ext H G (upd H T (.tup [u, u2])) G := .laid hT
  refine ⟨x2, r.laid hT, ?_⟩
  rw [VR]
  exact ⟨T, _, rfl, .inl (.inl upd_same), .cons (r1.ext r x2) (.cons (r2.ext r x2) .nil)⟩
theorem Itz.itD {K : Ml} {H1 : Hp} {G1 : DHp} {a b : Addr} {xs ys : List D} (h : ∀ H G, Ext H1 G1 H G → HR K H G → ∃ vs ws, SqL K.K H a vs ∧ SqL K.K H b ws ∧ VRs K H G xs vs ∧ VRs K H G ys ws) : ItD K H1 G1 (Itz K.K a b) (zipL xs ys) always := by
  intro i H G x r o
  obtain ⟨vs, ws, qa, qb, va, vb⟩ := h H G x r
  refine ⟨fun d e => ?_, fun l => ⟨vs, ws, qa, qb, by rw [va.length, vb.length]; exact zipL_stop l⟩⟩
  obtain ⟨p, q, e1, e2, rfl⟩ := zipL_get e
  obtain ⟨u, g1, r1⟩ := va.get e1
  obtain ⟨u2, g2, r2⟩ := vb.get e2
  refine ⟨⟨vs, ws, u, u2, qa, qb, g1, g2⟩, fun y H' ⟨T, z1, z2, e3, hT, e5, k1, k2⟩ => ?_⟩
  subst e3 e5
  have e6 := k1 vs qa
  have e7 := k2 ws qb
  rw [g1] at e6; cases e6
  rw [g2] at e7; cases e7
  have x2 : Ext H G (upd H T (.tup [u, u2])) G := .laid hT
  refine ⟨x2, r.laid hT, ?_⟩
  rw [VR]
  exact ⟨T, _, rfl, .inl (.inl upd_same), .cons (r1.ext r x2) (.cons (r2.ext r x2) .nil)⟩
section
variable {X : Cx}
theorem pid_zip {e e2 : Expr} {T : DTA} {p pos tpos : Pos} {elts : List Expr} {kk : Nat} (hm : X.mg "zip" = none) (ha : PAD X [e, e2] T) (hg : Gl X "zip" := by rfl)
    (hs : starEach [e, e2] X.env = (false, eval e X.env) :: starEach [e2] X.env := by rfl) (hpl : (backTo pos (starEach [e2] X.env)).any (·.1) = false := by rfl) :
    PID X (.Tuple elts kk tpos) (.Call (.Name "zip" p) [e, e2] [] pos) (diZip T) := by
  refine ⟨fun pins s σ H R I ⟨η, G, P, hs', hr, t, k⟩ => (RZ.pi_zipA hg hm ha hs hpl).run pins s σ H R I ⟨η, G, _, hs', hr, t, fun ds G1 vs H1 p x r q => ?_⟩⟩
  split at p
  · rename_i xs ys
    obtain ⟨v1, r1, rfl, a1, q1⟩ := q.uncons
    obtain ⟨v2, r2, rfl, a2, q2⟩ := q1.uncons
    cases q2.nil_of
    rw [VR] at a1 a2
    obtain ⟨a, ws, rfl, ha, va⟩ := a1
    obtain ⟨b, us, rfl, hb, vb⟩ := a2
    exact ⟨a, b, ws, us, rfl, .inr ⟨ha, hb, k _ _ G1 _ H1 p x r (ItzT.itD fun H' G' x' r' => ⟨ws, us, Held.ext (k := .tup) r x' ha, Held.ext (k := .tup) r x' hb, va.ext r x', vb.ext r x'⟩)⟩⟩
  · rename_i xs ys
    obtain ⟨v1, r1, rfl, a1, q1⟩ := q.uncons
    obtain ⟨v2, r2, rfl, a2, q2⟩ := q1.uncons
    cases q2.nil_of
    rw [VR] at a1 a2
    obtain ⟨a, ws, rfl, ha, va⟩ := a1
    obtain ⟨b, us, rfl, hb, vb⟩ := a2
    exact ⟨a, b, ws, us, rfl, .inl ⟨held_lst ha (.inl rfl), held_lst hb (.inl rfl), k _ _ G1 _ H1 p x r (Itz.itD fun H' G' x' r' => ⟨ws, us, held_lst (ha.ext r x') (.inl rfl), held_lst (hb.ext r x') (.inl rfl), va.ext r x', vb.ext r x'⟩)⟩⟩
  · exact p.elim

/-! ### a starred thing among the items -/
def dStar (T : DTE) (R : DTA) : DTA := fun η G Q => T η G fun d G1 => match d with
  | .nd .tup xs => R η G1 fun ds G2 => Q (xs ++ ds) G2
  | .nd .lst xs => R η G1 fun ds G2 => Q (xs ++ ds) G2
  | _ => False
theorem pad_star {e : Expr} {es : List Expr} {T : DTE} {R : DTA} {p : Pos} (ha : PED X e T) (hb : PAD X es R) (hs : starEach (.Starred e p :: es) X.env = (true, eval e X.env) :: starEach es X.env := by rfl) : PAD X (.Starred e p :: es) (dStar T R) :=
  PA.impI (StX.pa_star ha hb hs) fun pins s σ H Q I ⟨η, G, P, hs, hr, t, k⟩ =>
    ⟨η, G, _, hs, hr, t, fun d1 G1 v1 H1 p1 x1 r1 q1 => by
      split at p1
      · rename_i xs
        rw [VR] at q1
        obtain ⟨a, vs, rfl, ha, va⟩ := q1
        exact ⟨a, vs, rfl, .inl ha, η, G1, _, hs.ext hr x1, r1, p1, fun ds G2 ws H2 p2 x2 r2 q2 => k (xs ++ ds) G2 (vs ++ ws) H2 p2 (x1.trans x2) r2 ((va.ext r1 x2).append q2)⟩
      · rename_i xs
        rw [VR] at q1
        obtain ⟨a, vs, rfl, ha, va⟩ := q1
        exact ⟨a, vs, rfl, .inr (held_lst ha (.inl rfl)), η, G1, _, hs.ext hr x1, r1, p1, fun ds G2 ws H2 p2 x2 r2 q2 => k (xs ++ ds) G2 (vs ++ ws) H2 p2 (x1.trans x2) r2 ((va.ext r1 x2).append q2)⟩
      · exact p1.elim⟩

/-! ### dict(d): a copy, tracked; the keys ints and texts -/
def dCopyK : DRn := d1 fun d G Q => match dicK d G with
  | some kvs => ∀ p, G p = none → Q (.ref p) (up G p (.dK kvs))
  | none => False
theorem cd_copyK : CallD X (.type "dict") dCopyK := calld1 fun pins s σ H G x v d P I rx hr q1 t => by
  split at t
  · rename_i kvs e
    obtain ⟨a, ws, rfl, h1, h2, h3⟩ := dicK_at hr q1 e
    cases rx
    refine d_copyOf I h1 fun p s' hp I' => ?_
    have x2 : Ext H G (upd H p (.dK ws)) (up G p (.dK kvs)) := .new hp
    exact ⟨.ref p, .ref p, _, _, I', rfl, t p (hr.free hp), x2, hr.new hp ⟨ws, upd_same, h2, h3.ext hr x2⟩, by rw [VR]⟩
  · exact t.elim
end
end DL
/-! DLu: the table of types; isinstance as it runs. -/
namespace DL
open PySem PySem.Spec PyProof.Rows L2

/-- the table of the built-in types, and of the classes cs by themselves -/
def isTab (cs : List Addr) : Value → Value → Option Bool := fun t u => match t, u with
  | .type a, .type b => tyIs a b
  | .ref C, .ref B => if C = B ∧ C ∈ cs then some true else none
  | _, _ => none
theorem isTab_ok {K : PySem.W.Frag} {cs : List Addr} (h : ∀ C ∈ cs, IsC K C) : IsTab K (isTab cs) := by
  intro t u b e
  cases t with
  | type a =>
    cases u with
    | type c => exact ⟨tyIs_kit e, fun C z => nomatch z⟩
    | _ => cases e
  | ref C =>
    cases u with
    | ref B =>
      have e : (if C = B ∧ C ∈ cs then some true else none) = some b := e
      by_cases q : C = B ∧ C ∈ cs
      · rw [if_pos q] at e
        cases e
        obtain ⟨rfl, hC⟩ := q
        refine ⟨?_, fun C' z => by cases z; exact h _ hC⟩
        unfold PySem.W.kitOne
        rw [if_pos (by simp)]
      · rw [if_neg q] at e; cases e
    | _ => cases e
  | _ => cases u <;> cases e
section
variable {cs : List Addr} {G : DHp} {Q : DVK}
theorem isi_int_int {i : Int} : (dIsi (isTab cs)) [.int i, .ty "int"] G Q ↔ Q (.bl true) G := Iff.rfl
theorem isi_int_bool {i : Int} : (dIsi (isTab cs)) [.int i, .ty "bool"] G Q ↔ Q (.bl false) G := Iff.rfl
theorem isi_tup_tup {ds : List D} : (dIsi (isTab cs)) [.nd .tup ds, .ty "tuple"] G Q ↔ Q (.bl true) G := Iff.rfl
theorem isi_ins {C : Addr} {ns : List Str} {ds : List D} (h : C ∈ cs) : (dIsi (isTab cs)) [.nd (.ins C ns) ds, .ref C] G Q ↔ Q (.bl true) G := by
  show (match (if C = C ∧ C ∈ cs then some true else none) with | some b => Q (.bl b) G | none => False) ↔ _
  rw [if_pos ⟨rfl, h⟩]
end
/-! ### a, b, c = x, y, z -/
def dPar3 (i j l : Nat) (T : DTA) : DTS := fun F η G => T η G fun ds G1 => match ds with
  | [d, e, f] => F.nx (((η.set i (some d)).set j (some e)).set l (some f)) G1
  | _ => False
section
variable {X : Cx}
theorem psd_par3 {i j l : Nat} {x y z : Str} {a b c : Expr} {T : DTA} {px py pz pt pos : Pos} {kt k2 pt2} (hc : X.calm = true) (hN : X.N.Nodup) (hi : X.N[i]? = some x) (hj : X.N[j]? = some y) (hl : X.N[l]? = some z) (hij : i ≠ j) (hil : i ≠ l) (hjl : j ≠ l)
    (hx : X.env.scope.names.lookup x = some .local) (hy : X.env.scope.names.lookup y = some .local) (hz : X.env.scope.names.lookup z = some .local) (ha : PAD X [a, b, c] T)
    (hw : swappedStores [.Tuple [.Name x px, .Name y py, .Name z pz] kt pt] (.Tuple [a, b, c] k2 pt2) X.env = pure (some [x, y, z])) (hs : swapsWithSole [.Tuple [.Name x px, .Name y py, .Name z pz] kt pt] (.Tuple [a, b, c] k2 pt2) pos.line X.env = pure false := by rfl) :
    PSD X (.Assign [.Tuple [.Name x px, .Name y py, .Name z pz] kt pt] (.Tuple [a, b, c] k2 pt2) pos) (dPar3 i j l T) :=
  PS.impI (ps_par3 hc hN hi hj hl hij hil hjl hx hy hz ha hw hs) fun _ _ σ H E _ ⟨η, G, F, hs, hr, t, k⟩ => ⟨η, G, _, hs, hr, t, fun ds G1 vs H1 p1 x1 r1 q1 => by
    match ds, p1, q1 with
    | [d, e, f], p1, q1 =>
      obtain ⟨v, r, rfl, a1, q2⟩ := q1.uncons
      obtain ⟨w, r', rfl, a2, q3⟩ := q2.uncons
      obtain ⟨u, r'', rfl, a3, q4⟩ := q3.uncons
      rw [q4.nil_of]
      exact ⟨v, w, u, rfl, k.nx _ G1 _ H1 p1 x1 ((((hs.ext hr x1).set i a1).set j a2).set l a3) r1⟩
    | [], p1, _ => exact p1.elim
    | [_], p1, _ => exact p1.elim
    | [_, _], p1, _ => exact p1.elim
    | _ :: _ :: _ :: _ :: _, p1, _ => exact p1.elim⟩
end
end DL
/-! DLv: dicts whose keys are ints, typed; how they run. -/
namespace DL
open PySem PySem.Spec PyProof.Rows L2

section
variable {β : Type}
abbrev kI (i : Int) : Key := Sum.inl i
theorem kI_inj {a b : Int} : kI a = kI b ↔ a = b := ⟨fun h => by injection h, fun h => by rw [h]⟩
abbrev oK (f : β → D) (kvs : List (Int × β)) : DO := .dK (enc kI f kvs)
def eK (f : β → D) (kvs : List (Int × β)) : D := .nd (.dK ((enc kI f kvs).map (·.1))) ((enc kI f kvs).map (·.2))
theorem tree_oK (f : β → D) (kvs : List (Int × β)) : DO.tree (oK f kvs) = eK f kvs := rfl
theorem dicK_eK (f : β → D) (kvs : List (Int × β)) (G : DHp) : dicK (eK f kvs) G = some (enc kI f kvs) := by
  show some (((enc kI f kvs).map (·.1)).zip ((enc kI f kvs).map (·.2))) = _
  rw [zip_maps]
theorem dicK_ref {f : β → D} {kvs : List (Int × β)} {G : DHp} {p : Addr} (e : G p = some (oK f kvs)) : dicK (.ref p) G = some (enc kI f kvs) := by
  show (match G p with | some (.dK kvs) => some kvs | _ => none) = _
  rw [e]
theorem dicN_of_K {x : D} {G : DHp} {kvs : List (Key × D)} (h : dicK x G = some kvs) : dicN x G = none ∧ der x G = x := by
  cases x with
  | ref p =>
    have h' : (match G p with | some (.dK kvs) => some kvs | _ => none) = some kvs := h
    show (match G p with | some (.dN kvs) => some kvs | _ => none) = none ∧ _
    rw [der_ref]
    cases g : G p with
    | none => rw [g] at h'; cases h'
    | some o =>
      rw [g] at h'
      cases o with
      | dK kk => exact ⟨rfl, rfl⟩
      | _ => cases h'
  | nd kd es =>
    cases kd with
    | dK _ => exact ⟨rfl, rfl⟩
    | _ => cases h
  | _ => cases h
theorem no_seq_K {x : D} {G : DHp} {kvs : List (Key × D)} (h : dicK x G = some kvs) : ∀ ds, x ≠ .nd .lst ds ∧ x ≠ .nd .tup ds ∧ x ≠ .nd .scr ds := by
  intro ds
  cases x with
  | nd kd es =>
    cases kd with
    | dK _ => exact ⟨(nomatch ·), (nomatch ·), (nomatch ·)⟩
    | _ => cases h
  | ref p => exact ⟨(nomatch ·), (nomatch ·), (nomatch ·)⟩
  | _ => cases h
variable {f : β → D} {kvs : List (Int × β)} {G : DHp} {Q : DVK} {a : Int}
theorem run_inK {neg : Bool} {y : D} (h : dicK y G = some (enc kI f kvs)) (q : Q (.bl (neg != (aget kvs a).isSome)) G) : dIn neg (.int a) y G Q := by
  obtain ⟨h1, h2⟩ := dicN_of_K h
  have h3 := no_seq_K h
  unfold dIn
  rw [h2, h1, h]
  split
  · exact absurd rfl (h3 _).1
  · exact absurd rfl (h3 _).2.1
  · show Q (.bl (neg != (dval (enc kI f kvs) (kI a)).isSome)) G
    rw [dval_enc kI_inj, Option.isSome_map]
    exact q
theorem run_get1K {x : D} (h : dicK x G = some (enc kI f kvs)) (q : Q (((aget kvs a).map f).getD .non) G) : dGet1 [x, .int a] G Q := by
  obtain ⟨h1, h2⟩ := dicN_of_K h
  show (match dicN x G with | some kvs => _ | none => _)
  rw [h1]
  show (match dicK x G with | some kvs => _ | none => _)
  rw [h]
  show Q ((dval (enc kI f kvs) (kI a)).getD .non) G
  rw [dval_enc kI_inj]
  exact q
theorem run_ixK {x : D} {b : β} (h : dicK x G = some (enc kI f kvs)) (hb : aget kvs a = some b) (q : Q (f b) G) : dIx x (.int a) G Q := by
  obtain ⟨h1, h2⟩ := dicN_of_K h
  have h3 := no_seq_K h
  unfold dIx
  rw [h2, h1, h]
  split
  · exact absurd rfl (h3 _).1
  · exact absurd rfl (h3 _).2.2
  · exact absurd rfl (h3 _).2.1
  · show (match dval (enc kI f kvs) (kI a) with | some d => Q d G | none => False)
    rw [dval_enc kI_inj, hb]
    exact q
theorem run_setK {p : Addr} {b : β} {R : DHp → Prop} (h : G p = some (oK f kvs)) (hl : kvs.length < sizeLine) (q : R (up G p (oK f (aput kvs a b)))) : dSet (.ref p) (.int a) (f b) G R := by
  show (match G p with | some (.lst ds) => _ | some (.dN kvs) => _ | some (.dK kvs) => _ | _ => False)
  rw [h]
  show (match (D.int a).kK with | some k => _ | none => False)
  show (enc kI f kvs).length < sizeLine ∧ R (up G p (.dK (dput (enc kI f kvs) (kI a) (f b))))
  refine ⟨by unfold enc; rw [List.length_map]; exact hl, ?_⟩
  rw [dput_enc kI_inj]
  exact q
theorem run_copyK {x : D} (h : dicK x G = some (enc kI f kvs)) (q : ∀ p, G p = none → Q (.ref p) (up G p (oK f kvs))) : dCopyK [x] G Q := by
  show (match dicK x G with | some kvs => _ | none => False)
  rw [h]
  exact q
theorem ty_refK {p : Addr} {kvs : List (Key × D)} (h : G p = some (.dK kvs)) : tyD "dict" (.ref p) G := by simp only [tyD, h]
theorem ty_eK : tyD "dict" (eK f kvs) G := rfl
/-- the items of a dict that is changed no more -/
theorem dicP_eK (f : β → D) (kvs : List (Int × β)) : dicP (eK f kvs) = some (kvs.map fun p => (.int p.1, f p.2)) := by
  show some ((((enc kI f kvs).map (·.1)).map kD).zip ((enc kI f kvs).map (·.2))) = _
  unfold enc
  rw [List.map_map, List.map_map, List.map_map, List.zip_map']
  rfl
theorem keysD_ref {p : Addr} (e : G p = some (oK f kvs)) : keysD (.ref p) G = some ((kvs.map (·.1)).map .int) := by
  obtain ⟨h1, _⟩ := dicN_of_K (dicK_ref e)
  unfold keysD
  rw [h1, dicK_ref e]
  show some ((enc kI f kvs).map fun p => kD p.1) = _
  unfold enc
  rw [List.map_map, List.map_map]
  rfl
theorem keysD_eK : keysD (eK f kvs) G = some ((kvs.map (·.1)).map .int) := by
  obtain ⟨h1, _⟩ := dicN_of_K (dicK_eK f kvs G)
  unfold keysD
  rw [h1, dicK_eK]
  show some ((enc kI f kvs).map fun p => kD p.1) = _
  unfold enc
  rw [List.map_map, List.map_map]
  rfl
end
end DL
/-! DLw: a list of lists that are changed no more. -/
namespace DL
open PySem PySem.Spec PyProof.Rows L2

/-- the lists that stand in a list, each changed no more -/
def frL : List D → DHp → Option (List D × DHp)
  | [], G => some ([], G)
  | d :: ds, G => match d with
    | .ref p => (match G p with
      | some (.lst es) => (match frL ds (dl G p) with
        | some (x, G') => some (.nd .lst es :: x, G')
        | none => none)
      | _ => none)
    | _ => none
theorem frL_vr {K : Ml} {H : Hp} : ∀ {ds : List D} {G : DHp} {x : List D} {G' : DHp} {vs : List V}, frL ds G = some (x, G') → HR K H G → VRs K H G ds vs → VRs K H G' x vs ∧ Ext H G H G' ∧ HR K H G'
  | [], G, x, G', vs, e, hr, q => by
    cases e
    exact ⟨by rw [q.nil_of]; exact .nil, .refl _ _, hr⟩
  | d :: ds, G, x, G', vs, e, hr, q => by
    obtain ⟨v, r, rfl, q1, q2⟩ := q.uncons
    cases d with
    | ref p =>
      rw [VR] at q1
      subst q1
      have e : (match G p with
        | some (.lst es) => (match frL ds (dl G p) with
          | some (x, G') => some (D.nd .lst es :: x, G')
          | none => none)
        | _ => none) = some (x, G') := e
      cases hG : G p with
      | none => rw [hG] at e; cases e
      | some o =>
        rw [hG] at e
        cases o with
        | lst es =>
          simp only at e
          cases hf : frL ds (dl G p) with
          | none => rw [hf] at e; cases e
          | some y =>
            obtain ⟨y, G2⟩ := y
            rw [hf] at e
            cases e
            obtain ⟨t1, t2, t3⟩ := hr.tree (H' := H) hG rfl
            obtain ⟨a1, a2, a3⟩ := frL_vr hf t3 (q2.ext hr t2)
            exact ⟨.cons (t1.ext t3 a2) a1, t2.trans a2, a3⟩
        | _ => cases e
    | _ => cases e
def dFrzL (i : Nat) (t : DTS) : DTS := fun F η G => match η[i]? with
  | some (some (.ref a)) => (match G a with
    | some (.lst ds) => (match frL ds (dl G a) with
      | some (x, G') => t F (η.set i (some (.nd .lst x))) G'
      | none => False)
    | _ => False)
  | _ => False
theorem pssd_frzL {X : Cx} {sts : List Stmt} {t : DTS} (i : Nat) (h : PSsD X sts t) : PSsD X sts (dFrzL i t) := ⟨fun pins s σ H E I ⟨η, G, F, hs, hr, t, k⟩ => by
    unfold dFrzL at t
    split at t
    · rename_i a e
      split at t
      · rename_i ds ho
        split at t
        · rename_i x G' hf
          obtain ⟨v, q, r⟩ := hs.2 i _ e
          rw [VR] at r
          subst r
          obtain ⟨t1, t2, t3⟩ := hr.tree (H' := H) ho rfl
          have t1 : VR X.ml H (dl G a) (.nd .lst ds) (.ref a) := t1
          rw [VR] at t1
          obtain ⟨b, vs, eb, hb, qs⟩ := t1
          cases eb
          obtain ⟨a1, a2, a3⟩ := frL_vr hf t3 qs
          have tv : VR X.ml H G' (.nd .lst x) (.ref a) := by
            rw [VR]
            exact ⟨a, vs, rfl, hb.ext t3 a2, a1⟩
          have s2 : SR X.ml H G' σ (η.set i (some (.nd .lst x))) := by
            have z := (hs.ext hr (t2.trans a2)).set i tv
            have e2 : σ.set i (some (V.ref a)) = σ := by
              refine List.ext_getElem? fun j => ?_
              by_cases hj : i = j
              · subst hj
                rw [List.getElem?_set_self (List.getElem?_eq_some_iff.mp q).1, q]
              · rw [List.getElem?_set_ne hj]
            rw [e2] at z; exact z
          exact h.run pins s σ H E I ⟨_, _, F, s2, a3, t, k.ext (t2.trans a2)⟩
        · exact t.elim
      · exact t.elim
    · exact t.elim⟩
end DL
/-! DLx: small steps as they run. -/
namespace DL
open PySem PySem.Spec PyProof.Rows L2

/-- what else is tracked, then the draws -/
abbrev Gw (G : DHp) (a : Addr) (ns : List Int) (c : Int) : DHp := up G a (drw ns c)
theorem gw_new {G : DHp} {a p : Addr} {ns : List Int} {c : Int} {o : DO} (h : Gw G a ns c p = none) : up (Gw G a ns c) p o = Gw (up G p o) a ns c ∧ a ≠ p := by
  have hn : a ≠ p := fun e => by
    subst e
    rw [show Gw G a ns c a = some (drw ns c) from up_same] at h
    cases h
  exact ⟨(up_comm hn), hn⟩
theorem gw_none {G : DHp} {a p : Addr} {ns : List Int} {c : Int} (hn : a ≠ p) (h : Gw G a ns c p = none) : G p = none := by
  rw [show Gw G a ns c p = G p from up_ne (Ne.symm hn)] at h
  exact h
theorem gw_dl {G : DHp} {a p : Addr} {ns : List Int} {c : Int} {o : DO} (hn : a ≠ p) (h : G p = none) : dl (Gw (up G p o) a ns c) p = Gw G a ns c := by
  show dl (up (up G p o) a _) p = _
  rw [dl_up_ne hn, dl_up h]
theorem gw_up {G : DHp} {a p : Addr} {ns : List Int} {c : Int} {o o' : DO} (hn : a ≠ p) : up (Gw (up G p o) a ns c) p o' = Gw (up G p o') a ns c := by
  show up (up (up G p o) a _) p o' = _
  rw [up_comm (a := a) (b := p) hn, up_up]
theorem gw_at {G : DHp} {a p : Addr} {ns : List Int} {c : Int} {o : DO} (hn : a ≠ p) : Gw (up G p o) a ns c p = some o := by
  show up (up G p o) a _ p = _
  rw [up_ne (Ne.symm hn), up_same]
theorem gw_take {G : DHp} {a : Addr} {ns : List Int} {c n : Int} {Q : DVK} (hn : 0 < n) (hl : ns.length ≤ 63) (q : ∀ r : Int, 0 ≤ r → r < n → Q (.int r) (Gw G a ns (c + 1))) : sp__law_take [.ref a, .int n] (Gw G a ns c) Q :=
  run_take hn hl up_same fun r h0 h1 => by rw [up_up]; exact q r h0 h1
theorem run_add_lst {x y : D} {xs ys : List D} {G : DHp} {Q : DVK} (h1 : der x G = .nd .lst xs) (h2 : der y G = .nd .lst ys) (hl : xs.length + ys.length ≤ sizeLine) (q : Q (.nd .lst (xs ++ ys)) G) : dAdd x y G Q := by
  unfold dAdd
  rw [h1, h2]
  exact ⟨hl, q⟩
theorem run_iext {p : Addr} {y : D} {xs ys : List D} {G : DHp} {Q : DVK} (h1 : G p = some (.lst xs)) (h2 : der y G = .nd .lst ys) (hl : xs.length + ys.length ≤ sizeLine) (q : Q (.ref p) (up G p (.lst (xs ++ ys)))) : dIAdd (.ref p) y G Q := by
  show onL (.ref p) G fun a ds => (match der y G with | .nd .lst es => ds.length + es.length ≤ sizeLine ∧ Q (.ref a) (up G a (.lst (ds ++ es))) | _ => False)
  refine onL_of h1 ?_
  rw [h2]
  exact ⟨hl, q⟩
theorem le_line {n : Nat} (h : n ≤ 1000000) : n ≤ sizeLine := Nat.le_of_lt (small_line h)
theorem len_sub {α : Type} [DecidableEq α] : ∀ {ys xs : List α}, ys.Nodup → (∀ y ∈ ys, y ∈ xs) → ys.length ≤ xs.length
  | [], _, _, _ => Nat.zero_le _
  | y :: ys, xs, hn, h => by
    rw [List.nodup_cons] at hn
    have hy := h y (by simp)
    have := len_sub (ys := ys) (xs := xs.erase y) hn.2 fun z hz => (List.mem_erase_of_ne (show z ≠ y from fun e => hn.1 (e ▸ hz))).mpr (h z (by simp [hz]))
    rw [List.length_erase_of_mem hy] at this
    have := List.length_pos_of_mem hy
    rw [List.length_cons]
    omega
theorem run_tup {d : D} {ds : List D} {G : DHp} {Q : DVK} (h : sqD d G = some ds) : dTuple [d] G Q = Q (.nd .tup ds) G := by
  unfold dTuple d1
  simp only [h]
theorem lsD_ref {p : Addr} {G : DHp} {ds : List D} (h : G p = some (.lst ds)) : lsD (.ref p) G = some ds := by
  unfold lsD
  rw [der_lt h]
theorem run_neb {x y : Bool} {G : DHp} {Q : DVK} (h : Q (.bl (x != y)) G) : dNe (.bl x) (.bl y) G Q := by
  refine ⟨⟨rfl, rfl, by show SeqAt.shaped (py (.bl x)) = true; rw [py]; rfl, by show SeqAt.shaped (py (.bl y)) = true; rw [py]; rfl⟩, ?_⟩
  show Q (.bl (!PyData.eqv (py (.bl x)) (py (.bl y)))) G
  rw [py, py, PyData.eqv]
  exact h
theorem run_len_eL {α : Type} {f : α → D} {xs : List α} {G : DHp} {Q : DVK} : dLen [eL f xs] G Q = Q (.int xs.length) G := by
  rw [run_len (ds := xs.map f) rfl, List.length_map]
theorem run_ix {ds : List D} {i : Int} {d : D} {G : DHp} {Q : DVK} (h0 : 0 ≤ i) (e : ds[i.toNat]? = some d) (q : Q d G) : dIx (.nd .tup ds) (.int i) G Q := by
  show atD ds (.int i) fun d => Q d G
  exact atD_get h0 e q
theorem no_lst {G : DHp} {p : Addr} {kvs : List (NestedKey × D)} (h : G p = some (.dN kvs)) (xs : List D) : G p ≠ some (.lst xs) := by rw [h]; exact (nomatch ·)
theorem aput_mem {α β : Type} [DecidableEq α] (kvs : List (α × β)) (a c : α) (b : β) : c ∈ (aput kvs a b).map (·.1) ↔ c ∈ kvs.map (·.1) ∨ c = a := by
  rw [aput_keys]
  split
  · rename_i h
    rw [aget_mem] at h
    constructor
    · exact .inl
    · rintro (h' | rfl)
      · exact h'
      · exact h
  · rw [List.mem_append, List.mem_singleton]
theorem no_lstK {G : DHp} {p : Addr} {kvs : List (Key × D)} (h : G p = some (.dK kvs)) (xs : List D) : G p ≠ some (.lst xs) := by rw [h]; exact (nomatch ·)
theorem take_sn {α : Type} {l : List α} {i : Nat} {x : α} (h : l[i]? = some x) : l.take (i + 1) = l.take i ++ [x] := by
  rw [List.take_add_one, h]; rfl
theorem isn_non {G : DHp} {Q : DVK} : dIsN true .non .non G Q = Q (.bl false) G := rfl
theorem isn_int {a : Int} {G : DHp} {Q : DVK} : dIsN true (.int a) .non G Q = Q (.bl true) G := rfl
theorem isn_nd {k : Kd} {ds : List D} {G : DHp} {Q : DVK} : dIsN true (.nd k ds) .non G Q = Q (.bl true) G := rfl
theorem is_non {G : DHp} {Q : DVK} : dIsN false .non .non G Q = Q (.bl true) G := rfl
theorem is_nd {k : Kd} {ds : List D} {G : DHp} {Q : DVK} : dIsN false (.nd k ds) .non G Q = Q (.bl false) G := rfl
theorem run_len_eT {α : Type} {f : α → D} {xs : List α} {G : DHp} {Q : DVK} : dLen [eT f xs] G Q = Q (.int xs.length) G := by
  rw [run_len (ds := xs.map f) rfl, List.length_map]
/-- an item of a list or a tuple that stays -/
theorem run_ixL {α : Type} {f : α → D} {xs : List α} {i : Int} {x : α} {G : DHp} {Q : DVK} (h0 : 0 ≤ i) (e : xs[i.toNat]? = some x) (q : Q (f x) G) : dIx (eL f xs) (.int i) G Q := by
  show atD (xs.map f) (.int i) fun d => Q d G
  exact atD_get h0 (by rw [List.getElem?_map, e]; rfl) q
theorem run_ixT {α : Type} {f : α → D} {xs : List α} {i : Int} {x : α} {G : DHp} {Q : DVK} (h0 : 0 ≤ i) (e : xs[i.toNat]? = some x) (q : Q (f x) G) : dIx (eT f xs) (.int i) G Q := by
  show atD (xs.map f) (.int i) fun d => Q d G
  exact atD_get h0 (by rw [List.getElem?_map, e]; rfl) q
/-- an item of a tracked list -/
theorem run_ixR {p : Addr} {ds : List D} {i : Int} {d : D} {G : DHp} {Q : DVK} (hp : G p = some (.lst ds)) (h0 : 0 ≤ i) (e : ds[i.toNat]? = some d) (q : Q d G) : dIx (.ref p) (.int i) G Q := by
  unfold dIx
  rw [der_lt hp]
  exact atD_get h0 e q
/-- a list is not empty: of plain things with short depth -/
theorem run_neE {x : D} {xs : List D} {G : DHp} {Q : DVK} (h : der x G = .nd .lst xs) (hc : cleans xs = true) (hd : ∀ d ∈ xs, (py d).depth ≤ 60) (q : Q (.bl (!xs.isEmpty)) G) : dNe x (.nd .lst []) G Q := by
  refine run_ne (by rw [h]; rw [clean]; exact hc) rfl (by rw [h]; exact Nat.le_trans (depth_lst hd) (by decide)) (by show (py (.nd .lst [])).depth ≤ 64; rw [py, pys]; decide) _ ?_ q
  rw [h]
  cases xs with
  | nil => simp [der]
  | cons d ds => simp [der]
theorem run_neI {p : Addr} {xs : List Int} {G : DHp} {Q : DVK} (h : G p = some (.lst (xs.map .int))) (q : Q (.bl (!xs.isEmpty)) G) : dNe (.ref p) (.nd .lst []) G Q := by
  refine run_neE (der_lt h) (cleans_map (fun _ => rfl) xs) (fun d hd => ?_) ?_
  · obtain ⟨i, _, rfl⟩ := List.mem_map.mp hd
    rw [depth_int]; decide
  · rw [List.isEmpty_map]; exact q
theorem run_pop0 {p : Addr} {d : D} {ds : List D} {G : DHp} {Q : DVK} (h : G p = some (.lst (d :: ds))) (q : Q d (up G p (.lst ds))) : tyD "list" (.ref p) G ∧ dPopAt [.ref p, .int 0] G Q := by
  refine ⟨by simp only [tyD, h], ?_⟩
  have e : ixN (d :: ds).length 0 = some 0 := by simp [ixN]
  simp only [dPopAt, d2, onL, h, e, List.getElem?_cons_zero, List.eraseIdx_cons_zero]
  exact q
theorem run_popE {p : Addr} {d : D} {ds : List D} {G : DHp} {Q : DVK} (h : G p = some (.lst (ds ++ [d]))) (q : Q d (up G p (.lst ds))) : tyD "list" (.ref p) G ∧ dPop [.ref p] G Q := by
  refine ⟨by simp only [tyD, h], ?_⟩
  have e : (ds ++ [d])[(ds ++ [d]).length - 1]? = some d := by simp
  simp only [dPop, d1, onL, h, e, List.dropLast_concat]
  exact q
end DL
/-! # DLy: more small run steps -/
namespace DL
open PySem PySem.Spec PyProof.Rows L2
section
variable {α β : Type} [DecidableEq α] {k : α → NestedKey} {e : α → D} {f : β → D} {kvs : List (α × β)} {G : DHp} {Q : DVK} {a : α}
theorem dicN_der {y : D} {kvs : List (NestedKey × D)} (h : dicN y G = some kvs) : ∀ ds, der y G ≠ .nd .lst ds ∧ der y G ≠ .nd .tup ds ∧ der y G ≠ .nd .scr ds := fun ds => by
  cases y with
  | ref p =>
    have h' : (match G p with | some (.dN kvs) => some kvs | _ => none) = some kvs := h
    cases g : G p with
    | none => rw [g] at h'; cases h'
    | some o =>
      rw [g] at h'
      cases o with
      | dN kk => rw [der_ref, g]; exact ⟨(nomatch ·), (nomatch ·), (nomatch ·)⟩
      | lst _ => cases h'
      | dK _ => cases h'
      | ins _ _ => cases h'
  | nd kd ds' =>
    cases kd with
    | dN ks => exact ⟨(nomatch ·), (nomatch ·), (nomatch ·)⟩
    | _ => exact nomatch h
  | _ => exact nomatch h
theorem snoc_ind {α : Type} {motive : List α → Prop} (h0 : motive []) (h1 : ∀ l x, motive l → motive (l ++ [x])) (l : List α) : motive l := by
  have go : ∀ r : List α, motive r.reverse := fun r => by
    induction r with
    | nil => exact h0
    | cons x r ih => rw [List.reverse_cons]; exact h1 _ _ ih
  have := go l.reverse
  rwa [List.reverse_reverse] at this
/-- d[k], the key a tuple -/
theorem run_ixD (T : TKey k e) {x : D} {b : β} (h : dicN x G = some (enc k f kvs)) (hb : aget kvs a = some b) (q : Q (f b) G) : dIx x (e a) G Q := by
  obtain ⟨ks, ek⟩ := T.shp a
  have hk := T.key a
  have h3 := dicN_der h
  rw [ek] at hk ⊢
  unfold dIx
  rw [h]
  split
  · rename_i e1; exact absurd e1 (h3 _).1
  · rename_i e1; exact absurd e1 (h3 _).2.2
  · rename_i e1; exact absurd e1 (h3 _).2.1
  · show (match D.key (.nd .tup ks) with | some k => _ | none => False)
    rw [hk]
    refine ⟨T.dep a, ?_⟩
    rw [dval_enc T.inj, hb]
    exact q
end
end DL
/-! # DLz: comprehensions at once, small steps -/
namespace DL
open PySem PySem.Spec PyProof.Rows L2
/-- [y for x in xs if ..]: what is told of one x, pure, is told of all -/
theorem lc_gen {wi : DTI} {g : DTG} {tt : DTT} {te : DTE} {own : List Nat} {η : DSt} {G : DHp} {Q : DVK} {α : Type} {xs : List α} {f : α → D} (fb : α → Bool) (h : α → D) (hl : xs.length ≤ 1000000)
    (hw : ∀ R, R (xs.map f) always G → wi η G R)
    (hb : ∀ x ∈ xs, ∀ (G1 : DHp) (A : DVK) (B : DHp → Prop), (fb x = true → A (h x) G1) → (fb x = false → B G1) → g (f x) (wipeD η own) G1 fun η2 G2 => tt η2 G2 fun b G3 => if b = true then te η2 G3 A else B G3)
    (q : ∀ p, G p = none → Q (.ref p) (up G p (.lst ((xs.filter fb).map h)))) : dLc wi g tt te own η G Q := by
  refine hw _ ?_
  intro p hp
  refine ⟨fun i acc G' => acc = ((xs.take i).filter fb).map h ∧ G' = up G p (.lst acc), ⟨rfl, rfl⟩, ?_, ?_, ?_⟩
  · rintro i acc G' ⟨rfl, rfl⟩
    exact ⟨trivial, up_same⟩
  · rintro i d acc G' hd ⟨rfl, rfl⟩
    obtain ⟨x, hx, rfl⟩ := get_map hd
    refine hb x (List.mem_of_getElem? hx) _ _ _ (fun e => ⟨small_line ?_, up_same, ?_, by rw [up_up]⟩) fun e => ⟨?_, rfl⟩
    · rw [List.length_map]
      refine Nat.le_trans (List.length_filter_le _ _) ?_
      rw [List.length_take]
      omega
    · rw [take_sn hx, List.filter_append, List.map_append]
      simp [e]
    · rw [take_sn hx, List.filter_append, List.map_append]
      simp [e]
  · rintro acc G' ⟨rfl, rfl⟩
    rw [List.length_map, List.take_length]
    exact q p hp
/-- [y for x in xs] -/
theorem lc_map {wi : DTI} {g : DTG} {te : DTE} {own : List Nat} {η : DSt} {G : DHp} {Q : DVK} {α : Type} {xs : List α} {f : α → D} (h : α → D) (hl : xs.length ≤ 1000000)
    (hw : ∀ R, R (xs.map f) always G → wi η G R)
    (hb : ∀ x ∈ xs, ∀ (G1 : DHp) (A : DVK), A (h x) G1 → g (f x) (wipeD η own) G1 fun η2 G2 => te η2 G2 A)
    (q : ∀ p, G p = none → Q (.ref p) (up G p (.lst (xs.map h)))) : dLc wi g dYes te own η G Q := by
  refine lc_gen (f := f) (fun _ => true) h hl hw (fun x hx G1 A B a _ => ?_) fun p hp => ?_
  · have := hb x hx G1 A (a rfl)
    simpa only [dYes, if_true] using this
  · have := q p hp
    rwa [List.filter_eq_self.mpr fun _ _ => rfl]
theorem enumL_map {α : Type} (f : α → D) (xs : List α) : enumL (xs.map f) = (xs.mapIdx fun i x => ((i : Int), x)).map fun z => .nd .tup [.int z.1, f z.2] := by
  unfold enumL
  refine List.ext_getElem? fun i => ?_
  rw [List.getElem?_mapIdx, List.getElem?_map, List.getElem?_map, List.getElem?_mapIdx]
  cases xs[i]? <;> rfl
theorem run_all {α : Type} {xs : List α} {b : α → Bool} {G : DHp} {Q : DVK} (q : Q (.bl (xs.all b)) G) : dAll [.nd .lst (xs.map fun x => .bl (b x))] G Q := by
  refine ⟨xs.map b, ?_, ?_⟩
  · show some _ = some _
    rw [List.map_map]; rfl
  · rw [List.all_map]; exact q
theorem run_any {α : Type} {xs : List α} {b : α → Bool} {G : DHp} {Q : DVK} (q : Q (.bl (xs.any b)) G) : dAny [.nd .lst (xs.map fun x => .bl (b x))] G Q := by
  refine ⟨xs.map b, ?_, ?_⟩
  · show some _ = some _
    rw [List.map_map]; rfl
  · rw [List.any_map]; exact q
theorem cut_drop (ds : List D) (k : Nat) : cutD ds (some (k : Int)) none = ds.drop k := by
  unfold cutD
  rw [HT.sIx_nat, HT.sIx_none]
  by_cases h : k ≤ ds.length
  · rw [Nat.min_eq_left h, List.take_of_length_le (by rw [List.length_drop]; exact Nat.le_refl _)]
  · rw [Nat.min_eq_right (by omega), List.drop_eq_nil_of_le (Nat.le_refl _), List.drop_eq_nil_of_le (by omega), List.take_nil]
theorem cut_take (ds : List D) (k : Nat) : cutD ds none (some (k : Int)) = ds.take k := by
  unfold cutD
  rw [HT.sIx_nat, HT.sIx_none, List.drop_zero, Nat.sub_zero]
  by_cases h : k ≤ ds.length
  · rw [Nat.min_eq_left h]
  · rw [Nat.min_eq_right (by omega), List.take_of_length_le (Nat.le_refl _), List.take_of_length_le (by omega)]
theorem gw_self {G : DHp} {a : Addr} {ns : List Int} {c : Int} (h : G a = some (drw ns c)) : Gw G a ns c = G := by
  funext b
  show (if b = a then _ else _) = _
  split
  · rename_i e; rw [e, h]
  · rfl
end DL
/-! MTa: matchings found by alternating searches, in plain Lean. Pairs: (crater, point) in an assoc list P, other ↦ one. -/
namespace M
open DL

section
variable {α β : Type} [DecidableEq α]
theorem ag_of {a : α} {m : β} : ∀ {l : List (α × β)}, (l.map (·.1)).Nodup → (a, m) ∈ l → aget l a = some m
  | [], _, h => by cases h
  | z :: l, hn, h => by
    rw [List.map_cons, List.nodup_cons] at hn
    unfold aget
    rcases List.mem_cons.mp h with e | h
    · rw [← e]; simp
    · have : z.1 ≠ a := fun e => hn.1 (e ▸ List.mem_map.mpr ⟨_, h, rfl⟩)
      simp only [List.find?_cons, this, decide_false]
      exact ag_of hn.2 h
theorem of_ag {a : α} {m : β} {l : List (α × β)} (h : aget l a = some m) : (a, m) ∈ l := by
  unfold aget at h
  cases hf : l.find? (fun p => decide (p.1 = a)) with
  | none => rw [hf] at h; cases h
  | some z =>
    rw [hf] at h
    have h1 := List.mem_of_find?_eq_some hf
    have h2 := List.find?_some hf
    have h3 : z.1 = a := by simpa using h2
    have h4 : z.2 = m := by simpa using h
    obtain ⟨z1, z2⟩ := z
    simp only at h3 h4
    subst h3 h4
    exact h1
theorem ag_key {a : α} {l : List (α × β)} (h : aget l a = none) : a ∉ l.map (·.1) := fun q => by
  have := (aget_mem l a).mpr q
  rw [h] at this; cases this
end

/-! ### what a matching is -/
def nxt (N : List (List Int)) (s : Int) : List Int := (N[s.toNat]?).getD []
def InR (N : List (List Int)) (s : Int) : Prop := 0 ≤ s ∧ s < N.length
structure Mt (N : List (List Int)) (P : List (Int × Int)) : Prop where
  nd : (P.map (·.1)).Nodup
  inj : ∀ a b m, aget P a = some m → aget P b = some m → a = b
  ok : ∀ a m, aget P a = some m → InR N m ∧ a ∈ nxt N m
/-- m is matched -/
def Has (P : List (Int × Int)) (m : Int) : Prop := ∃ a, aget P a = some m
/-- whoever is in S has all its next ones matched within S -/
def Closed (N : List (List Int)) (P : List (Int × Int)) (S : Int → Prop) : Prop := ∀ s, S s → InR N s ∧ ∀ a ∈ nxt N s, ∃ m, aget P a = some m ∧ S m
theorem Mt.nil (N : List (List Int)) : Mt N [] := ⟨List.nodup_nil, fun _ _ _ h => (by cases h), fun _ _ h => (by cases h)⟩
/-- how the search came to its craters -/
def Tree (N : List (List Int)) (P : List (Int × Int)) (one : Int) (C : List (Int × Int)) : Prop := ∀ l1 a s l2, C = l1 ++ (a, s) :: l2 → a ∉ l1.map (·.1) ∧ a ∈ nxt N s ∧ InR N s ∧ (s = one ∨ ∃ b, b ∈ l1.map (·.1) ∧ aget P b = some s)
theorem Tree.nil {N : List (List Int)} {P : List (Int × Int)} {one : Int} : Tree N P one [] := fun l1 a s l2 h => by simp at h
theorem app_split {α : Type} {C : List α} {x y : α} {l1 l2 : List α} (h : C ++ [x] = l1 ++ y :: l2) : (l2 = [] ∧ l1 = C ∧ y = x) ∨ ∃ l3, C = l1 ++ y :: l3 ∧ l2 = l3 ++ [x] := by
  rcases List.eq_nil_or_concat l2 with rfl | ⟨l3, z, rfl⟩
  · have h2 := List.append_inj' h rfl
    simp only [List.cons.injEq, and_true] at h2
    exact .inl ⟨rfl, h2.1.symm, h2.2.symm⟩
  · have h' : C ++ [x] = (l1 ++ y :: l3) ++ [z] := by rw [h]; simp
    have h2 := List.append_inj' h' rfl
    simp only [List.cons.injEq, and_true] at h2
    exact .inr ⟨l3, h2.1, by rw [h2.2]; simp⟩
theorem Tree.snoc {N : List (List Int)} {P : List (Int × Int)} {one : Int} {C : List (Int × Int)} (t : Tree N P one C) {a s : Int} (h1 : a ∉ C.map (·.1)) (h2 : a ∈ nxt N s) (h3 : InR N s) (h4 : s = one ∨ ∃ b, b ∈ C.map (·.1) ∧ aget P b = some s) : Tree N P one (C ++ [(a, s)]) := fun l1 b u l2 h => by
  rcases app_split h with ⟨_, rfl, e⟩ | ⟨l3, e, _⟩
  · cases e
    exact ⟨h1, h2, h3, h4⟩
  · exact t l1 b u l3 e
theorem Tree.nd {N : List (List Int)} {P : List (Int × Int)} {one : Int} {C : List (Int × Int)} (t : Tree N P one C) : (C.map (·.1)).Nodup := by
  have go : ∀ (l2 l1 : List (Int × Int)), C = l1 ++ l2 → (l1.map (·.1)).Nodup → (C.map (·.1)).Nodup := by
    intro l2
    induction l2 with
    | nil => intro l1 e h; rw [e, List.append_nil]; exact h
    | cons x l2 ih =>
      intro l1 e h
      obtain ⟨a, s⟩ := x
      have q := (t l1 a s l2 e).1
      refine ih (l1 ++ [(a, s)]) (by rw [e]; simp) ?_
      rw [List.map_append, List.nodup_append]
      exact ⟨h, by simp, fun x hx y hy => by simp at hy; subst hy; exact fun z => q (z ▸ hx)⟩
  exact go C [] rfl List.nodup_nil
theorem Tree.get {N : List (List Int)} {P : List (Int × Int)} {one : Int} {C l1 l2 : List (Int × Int)} {a s : Int} (t : Tree N P one C) (e : C = l1 ++ (a, s) :: l2) : aget C a = some s :=
  ag_of t.nd (by rw [e]; simp)
/-! ### the way back -/
/-- what one more matched is -/
structure Aug (N : List (List Int)) (P : List (Int × Int)) (one : Int) (F : List (Int × Int)) : Prop where
  mt : Mt N F
  has : ∀ m, Has F m ↔ m = one ∨ Has P m
  keep : ∀ S, Closed N P S → ¬ S one → ∀ a m, aget P a = some m → S m → aget F a = some m
/-- the way back stands at a; l1: what is behind it in the tree -/
structure Bk (N : List (List Int)) (P : List (Int × Int)) (one : Int) (C l1 : List (Int × Int)) (F : List (Int × Int)) (a : Int) : Prop where
  nd : (F.map (·.1)).Nodup
  ok : ∀ b m, b ≠ a → aget F b = some m → InR N m ∧ b ∈ nxt N m
  inj : ∀ b c m, b ≠ a → c ≠ a → aget F b = some m → aget F c = some m → b = c
  has : ∀ m, (∃ b, b ≠ a ∧ aget F b = some m) ↔ Has P m
  same : ∀ b, b = a ∨ b ∈ l1.map (·.1) → aget F b = aget P b
  out : ∀ S, Closed N P S → ¬ S one → (∀ m, aget P a = some m → ¬ S m) ∧ ∀ b m, aget P b = some m → S m → aget F b = some m
  len : F.length + l1.length ≤ P.length + C.length
theorem Bk.start {N : List (List Int)} {P : List (Int × Int)} {one : Int} {C l1 l2 : List (Int × Int)} {a s : Int} (h : Mt N P) (e : C = l1 ++ (a, s) :: l2) (free : aget P a = none) : Bk N P one C l1 P a where
  nd := h.nd
  ok := fun b m _ q => h.ok b m q
  inj := fun b c m _ _ q r => h.inj b c m q r
  has := fun m => ⟨fun ⟨b, _, q⟩ => ⟨b, q⟩, fun ⟨b, q⟩ => ⟨b, (fun z => by rw [z, free] at q; cases q), q⟩⟩
  same := fun _ _ => rfl
  out := fun S _ _ => ⟨fun m q => (by rw [free] at q; cases q), fun _ _ q _ => q⟩
  len := by rw [e, List.length_append]; omega
section
variable {N : List (List Int)} {P : List (Int × Int)} {one : Int} {C l1 l2 F : List (Int × Int)} {a s : Int}
/-- the way's end -/
theorem Bk.fin (h : Mt N P) (t : Tree N P one C) (e : C = l1 ++ (a, s) :: l2) (b : Bk N P one C l1 F a) (free : ¬ Has P one) (end_ : ¬ Has P s) : Aug N P one (aput F a s) := by
  obtain ⟨t1, t2, t3, t4⟩ := t l1 a s l2 e
  have es : s = one := by
    rcases t4 with q | ⟨c, _, q⟩
    · exact q
    · exact absurd ⟨c, q⟩ end_
  subst es
  refine ⟨⟨aput_nodup _ _ _ b.nd, fun x y m hx hy => ?_, fun x m hx => ?_⟩, fun m => ?_, fun S cl ns x m hx hm => ?_⟩
  · rw [aget_aput] at hx hy
    by_cases ex : x = a
    · by_cases ey : y = a
      · rw [ex, ey]
      · rw [if_pos ex] at hx
        rw [if_neg ey] at hy
        cases hx
        exact absurd ((b.has s).mp ⟨y, ey, hy⟩) free
    · rw [if_neg ex] at hx
      by_cases ey : y = a
      · rw [if_pos ey] at hy
        cases hy
        exact absurd ((b.has s).mp ⟨x, ex, hx⟩) free
      · rw [if_neg ey] at hy
        exact b.inj x y m ex ey hx hy
  · rw [aget_aput] at hx
    by_cases ex : x = a
    · rw [if_pos ex] at hx
      cases hx
      rw [ex]
      exact ⟨t3, t2⟩
    · rw [if_neg ex] at hx
      exact b.ok x m ex hx
  · constructor
    · rintro ⟨x, hx⟩
      rw [aget_aput] at hx
      by_cases ex : x = a
      · rw [if_pos ex] at hx
        cases hx
        exact .inl rfl
      · rw [if_neg ex] at hx
        exact .inr ((b.has m).mp ⟨x, ex, hx⟩)
    · rintro (rfl | hm)
      · exact ⟨a, by rw [aget_aput, if_pos rfl]⟩
      · obtain ⟨x, ex, hx⟩ := (b.has m).mpr hm
        exact ⟨x, by rw [aget_aput, if_neg ex]; exact hx⟩
  · obtain ⟨o1, o2⟩ := b.out S cl ns
    have ex : x ≠ a := fun z => by subst z; exact o1 m hx hm
    rw [aget_aput, if_neg ex]
    exact o2 x m hx hm
/-- one step back -/
theorem Bk.step (h : Mt N P) (t : Tree N P one C) (e : C = l1 ++ (a, s) :: l2) (b : Bk N P one C l1 F a) (free : ¬ Has P one) {c : Int} (hc : aget P c = some s) : ∃ l3 u l4, C = l3 ++ (c, u) :: l4 ∧ l3.length < l1.length ∧ Bk N P one C l3 (aput F a s) c := by
  obtain ⟨t1, t2, t3, t4⟩ := t l1 a s l2 e
  have hs : s ≠ one := fun z => free ⟨c, z ▸ hc⟩
  have hcl : c ∈ l1.map (·.1) := by
    rcases t4 with q | ⟨d, hd, q⟩
    · exact absurd q hs
    · rw [h.inj c d s hc q]; exact hd
  obtain ⟨⟨c', u⟩, hm, e1⟩ := List.mem_map.mp hcl
  simp only at e1
  subst e1
  obtain ⟨l3, l4, e2⟩ := List.append_of_mem hm
  have ca : c' ≠ a := fun z => t1 (z ▸ hcl)
  have hF : aget F c' = some s := by rw [b.same c' (.inr hcl)]; exact hc
  refine ⟨l3, u, l4 ++ (a, s) :: l2, by rw [e, e2]; simp, by rw [e2, List.length_append, List.length_cons]; omega, aput_nodup _ _ _ b.nd, fun x m ex hx => ?_, fun x y m ex ey hx hy => ?_, fun m => ?_, fun x hx => ?_, fun S cl ns => ?_, ?_⟩
  · rw [aget_aput] at hx
    by_cases z : x = a
    · rw [if_pos z] at hx
      cases hx
      rw [z]
      exact ⟨t3, t2⟩
    · rw [if_neg z] at hx
      exact b.ok x m z hx
  · rw [aget_aput] at hx hy
    by_cases zx : x = a
    · by_cases zy : y = a
      · rw [zx, zy]
      · rw [if_pos zx] at hx
        rw [if_neg zy] at hy
        cases hx
        exact absurd (b.inj y c' s zy ca hy hF) ey
    · rw [if_neg zx] at hx
      by_cases zy : y = a
      · rw [if_pos zy] at hy
        cases hy
        exact absurd (b.inj x c' s zx ca hx hF) ex
      · rw [if_neg zy] at hy
        exact b.inj x y m zx zy hx hy
  · rw [← b.has m]
    constructor
    · rintro ⟨x, ex, hx⟩
      rw [aget_aput] at hx
      by_cases zx : x = a
      · rw [if_pos zx] at hx
        cases hx
        exact ⟨c', ca, hF⟩
      · rw [if_neg zx] at hx
        exact ⟨x, zx, hx⟩
    · rintro ⟨x, ex, hx⟩
      by_cases zx : x = c'
      · subst zx
        rw [hF] at hx
        cases hx
        exact ⟨a, Ne.symm ca, by rw [aget_aput, if_pos rfl]⟩
      · exact ⟨x, zx, by rw [aget_aput, if_neg ex]; exact hx⟩
  · have xa : x ≠ a := by
      rcases hx with rfl | hx
      · exact ca
      · exact fun z => t1 (by rw [e2, List.map_append]; exact List.mem_append.mpr (.inl (z ▸ hx)))
    rw [aget_aput, if_neg xa]
    refine b.same x (.inr ?_)
    rcases hx with rfl | hx
    · exact hcl
    · rw [e2, List.map_append]; exact List.mem_append.mpr (.inl hx)
  · obtain ⟨o1, o2⟩ := b.out S cl ns
    have hsS : ¬ S s := fun z => by
      obtain ⟨m, hm, hS⟩ := (cl s z).2 a t2
      exact o1 m hm hS
    refine ⟨fun m hm => ?_, fun x m hx hm => ?_⟩
    · rw [hc] at hm; cases hm; exact hsS
    · have xa : x ≠ a := fun z => by subst z; exact o1 m hx hm
      rw [aget_aput, if_neg xa]
      exact o2 x m hx hm
  · have := aput_len F a s
    have := b.len
    have : l3.length < l1.length := by rw [e2, List.length_append, List.length_cons]; omega
    omega
end
end M
/-! MTb: the search, the greatest matching, the short lot; what they come to. -/
namespace M
open DL

theorem aput_new {α β : Type} [DecidableEq α] {l : List (α × β)} {a : α} {b : β} (h : a ∉ l.map (·.1)) : aput l a b = l ++ [(a, b)] := by
  unfold aput
  rw [if_neg]
  intro q
  rw [List.any_eq_true] at q
  obtain ⟨p, hp, e⟩ := q
  exact h (List.mem_map.mpr ⟨p, hp, of_decide_eq_true e⟩)
theorem inj_len {α β : Type} [DecidableEq β] {R : α → β → Prop} : ∀ {L' : List α} {L : List β}, L'.Nodup → (∀ x ∈ L', ∃ y ∈ L, R x y) → (∀ x ∈ L', ∀ x' ∈ L', ∀ y, R x y → R x' y → x = x') → L'.length ≤ L.length
  | [], _, _, _, _ => Nat.zero_le _
  | x :: L', L, nd, h1, h2 => by
    rw [List.nodup_cons] at nd
    obtain ⟨y, hy, r⟩ := h1 x (List.mem_cons_self ..)
    have := inj_len (L' := L') (L := L.erase y) (R := R) nd.2 (fun z hz => by
      obtain ⟨y', hy', r'⟩ := h1 z (List.mem_cons_of_mem _ hz)
      have ne : y' ≠ y := fun e => by
        subst e
        have := h2 x (List.mem_cons_self ..) z (List.mem_cons_of_mem _ hz) y' r r'
        subst this
        exact nd.1 hz
      exact ⟨y', (List.mem_erase_of_ne ne).mpr hy', r'⟩) fun z hz z' hz' => h2 z (List.mem_cons_of_mem _ hz) z' (List.mem_cons_of_mem _ hz')
    rw [List.length_erase_of_mem hy] at this
    have : 0 < L.length := List.length_pos_of_mem hy
    rw [List.length_cons]; omega

theorem nd_map {α β : Type} {f : α → β} : ∀ {l : List α}, (l.map f).Nodup → l.Nodup
  | [], _ => List.nodup_nil
  | x :: l, h => by
    rw [List.map_cons, List.nodup_cons] at h
    exact List.nodup_cons.mpr ⟨fun q => h.1 (List.mem_map.mpr ⟨x, q, rfl⟩), nd_map h.2⟩

/-! ### the search -/
/-- a number that the search has come to -/
def Rch (P : List (Int × Int)) (one : Int) (C : List (Int × Int)) (s : Int) : Prop := s = one ∨ ∃ b, b ∈ C.map (·.1) ∧ aget P b = some s
/-- now: the number whose next ones are being looked at, the first i of them are done -/
structure Bf (N : List (List Int)) (P : List (Int × Int)) (one : Int) (C : List (Int × Int)) (L : List Int) (now : Int) (i : Nat) : Prop where
  tree : Tree N P one C
  mat : ∀ a ∈ C.map (·.1), ∃ m, aget P a = some m
  lst : ∀ s ∈ L, Rch P one C s
  cur : Rch P one C now
  done : ∀ s, Rch P one C s → s ∈ L ∨ (∀ a ∈ nxt N s, a ∈ C.map (·.1)) ∨ (s = now ∧ ∀ a ∈ (nxt N now).take i, a ∈ C.map (·.1))
section
variable {N : List (List Int)} {P : List (Int × Int)} {one : Int} {C : List (Int × Int)} {L : List Int} {now : Int} {i : Nat}
theorem Bf.le (h : Mt N P) (b : Bf N P one C L now i) : C.length ≤ P.length := by
  have := inj_len (L' := C.map (·.1)) (L := P.map (·.1)) (R := fun x y => x = y) b.tree.nd (fun x hx => by
    obtain ⟨m, hm⟩ := b.mat x hx
    exact ⟨x, (aget_mem P x).mp (by rw [hm]; rfl), rfl⟩) fun x _ x' _ y e e' => e.trans e'.symm
  rwa [List.length_map, List.length_map] at this
theorem Rch.inR (h : Mt N P) (ho : InR N one) {s : Int} (r : Rch P one C s) : InR N s := by
  rcases r with rfl | ⟨b, _, q⟩
  · exact ho
  · exact (h.ok b s q).1
/-- between two rounds: nothing is half done -/
structure Bw (N : List (List Int)) (P : List (Int × Int)) (one : Int) (C : List (Int × Int)) (L : List Int) : Prop where
  tree : Tree N P one C
  mat : ∀ a ∈ C.map (·.1), ∃ m, aget P a = some m
  lst : ∀ s ∈ L, Rch P one C s
  done : ∀ s, Rch P one C s → s ∈ L ∨ ∀ a ∈ nxt N s, a ∈ C.map (·.1)
theorem Bw.le (h : Mt N P) (b : Bw N P one C L) : C.length ≤ P.length := by
  have := inj_len (L' := C.map (·.1)) (L := P.map (·.1)) (R := fun x y => x = y) b.tree.nd (fun x hx => by
    obtain ⟨m, hm⟩ := b.mat x hx
    exact ⟨x, (aget_mem P x).mp (by rw [hm]; rfl), rfl⟩) fun x _ x' _ y e e' => e.trans e'.symm
  rwa [List.length_map, List.length_map] at this
theorem Bw.start : Bw N P one [] [one] where
  tree := .nil
  mat := fun a h => by simp at h
  lst := fun s h => .inl (by simpa using h)
  done := fun s r => by
    rcases r with rfl | ⟨b, hb, _⟩
    · exact .inl (by simp)
    · simp at hb
theorem Bw.pop (b : Bw N P one C (now :: L)) : Bf N P one C L now 0 where
  tree := b.tree
  mat := b.mat
  lst := fun s h => b.lst s (List.mem_cons_of_mem _ h)
  cur := b.lst now (List.mem_cons_self ..)
  done := fun s r => by
    rcases b.done s r with h | h
    · rcases List.mem_cons.mp h with rfl | h
      · exact .inr (.inr ⟨rfl, fun a ha => by simp at ha⟩)
      · exact .inl h
    · exact .inr (.inl h)
theorem Bf.end_ (b : Bf N P one C L now (nxt N now).length) : Bw N P one C L where
  tree := b.tree
  mat := b.mat
  lst := b.lst
  done := fun s r => by
    rcases b.done s r with h | h | ⟨rfl, h⟩
    · exact .inl h
    · exact .inr h
    · exact .inr fun a ha => h a (by rw [List.take_length]; exact ha)
theorem take_mem {l : List Int} {i : Nat} {a b : Int} (e : l[i]? = some a) (h : b ∈ l.take (i + 1)) : b ∈ l.take i ∨ b = a := by
  rw [List.take_add_one, e] at h
  simpa using h
theorem Bf.skip (b : Bf N P one C L now i) {a : Int} (e : (nxt N now)[i]? = some a) (h : a ∈ C.map (·.1)) : Bf N P one C L now (i + 1) where
  tree := b.tree
  mat := b.mat
  lst := b.lst
  cur := b.cur
  done := fun s r => by
    rcases b.done s r with q | q | ⟨q, z⟩
    · exact .inl q
    · exact .inr (.inl q)
    · refine .inr (.inr ⟨q, fun c hc => ?_⟩)
      rcases take_mem e hc with hc | rfl
      · exact z c hc
      · exact h
theorem Bf.tree' (h : Mt N P) (ho : InR N one) (b : Bf N P one C L now i) {a : Int} (e : (nxt N now)[i]? = some a) (hn : a ∉ C.map (·.1)) : Tree N P one (C ++ [(a, now)]) :=
  b.tree.snoc hn (List.mem_of_getElem? e) (b.cur.inR h ho) b.cur
theorem Rch.mono {s : Int} {x : Int × Int} (r : Rch P one C s) : Rch P one (C ++ [x]) s := by
  rcases r with q | ⟨b, hb, q⟩
  · exact .inl q
  · exact .inr ⟨b, by rw [List.map_append]; exact List.mem_append.mpr (.inl hb), q⟩
theorem Bf.push (h : Mt N P) (ho : InR N one) (b : Bf N P one C L now i) {a m : Int} (e : (nxt N now)[i]? = some a) (hn : a ∉ C.map (·.1)) (hm : aget P a = some m) : Bf N P one (C ++ [(a, now)]) (L ++ [m]) now (i + 1) where
  tree := b.tree' h ho e hn
  mat := fun c hc => by
    rw [List.map_append, List.mem_append] at hc
    rcases hc with hc | hc
    · exact b.mat c hc
    · have : c = a := by simpa using hc
      subst this
      exact ⟨m, hm⟩
  lst := fun s hs => by
    rw [List.mem_append] at hs
    rcases hs with hs | hs
    · exact (b.lst s hs).mono
    · have : s = m := by simpa using hs
      subst this
      exact .inr ⟨a, by simp, hm⟩
  cur := b.cur.mono
  done := fun s r => by
    have sub : ∀ c, c ∈ C.map (·.1) → c ∈ (C ++ [(a, now)]).map (·.1) := fun c hc => by rw [List.map_append]; exact List.mem_append.mpr (.inl hc)
    have old : Rch P one C s → s ∈ L ++ [m] ∨ (∀ c ∈ nxt N s, c ∈ (C ++ [(a, now)]).map (·.1)) ∨ (s = now ∧ ∀ c ∈ (nxt N now).take (i + 1), c ∈ (C ++ [(a, now)]).map (·.1)) := fun r => by
      rcases b.done s r with q | q | ⟨q, z⟩
      · exact .inl (List.mem_append.mpr (.inl q))
      · exact .inr (.inl fun c hc => sub c (q c hc))
      · refine .inr (.inr ⟨q, fun c hc => ?_⟩)
        rcases take_mem e hc with hc | rfl
        · exact sub c (z c hc)
        · simp
    rcases r with q | ⟨c, hc, q⟩
    · exact old (.inl q)
    · rw [List.map_append, List.mem_append] at hc
      rcases hc with hc | hc
      · exact old (.inr ⟨c, hc, q⟩)
      · have : c = a := by simpa using hc
        subst this
        rw [hm] at q
        cases q
        exact .inl (by simp)
/-- nothing is left: no way leads on -/
theorem Bw.close (h : Mt N P) (ho : InR N one) (b : Bw N P one C []) : ∃ S, Closed N P S ∧ S one :=
  ⟨Rch P one C, fun s r => ⟨r.inR h ho, fun a ha => by
    rcases b.done s r with q | q
    · cases q
    · have hk := q a ha
      obtain ⟨m, hm⟩ := b.mat a hk
      exact ⟨m, hm, .inr ⟨a, hk, hm⟩⟩⟩, .inl rfl⟩
end
/-! ### the greatest matching -/
structure Gr (N : List (List Int)) (P : List (Int × Int)) (i : Int) : Prop where
  mt : Mt N P
  lt : ∀ m, Has P m → m < i
  cert : ∀ u, 0 ≤ u → u < i → ¬ Has P u → ∃ S, Closed N P S ∧ S u
theorem Gr.start (N : List (List Int)) : Gr N [] 0 := ⟨.nil N, fun m ⟨a, h⟩ => by (cases h), fun u h1 h2 => by omega⟩
theorem Gr.free {N : List (List Int)} {P : List (Int × Int)} {i : Int} (g : Gr N P i) : ¬ Has P i := fun h => by have := g.lt i h; omega
theorem Gr.none {N : List (List Int)} {P : List (Int × Int)} {i : Int} (g : Gr N P i) (h : ∃ S, Closed N P S ∧ S i) : Gr N P (i + 1) :=
  ⟨g.mt, fun m hm => by have := g.lt m hm; omega, fun u h1 h2 h3 => by
    by_cases e : u = i
    · subst e; exact h
    · exact g.cert u h1 (by omega) h3⟩
theorem Gr.some {N : List (List Int)} {P F : List (Int × Int)} {i : Int} (g : Gr N P i) (a : Aug N P i F) : Gr N F (i + 1) :=
  ⟨a.mt, fun m hm => by
    rcases (a.has m).mp hm with rfl | hm
    · omega
    · have := g.lt m hm; omega, fun u h1 h2 h3 => by
    have e : u ≠ i := fun z => h3 ((a.has u).mpr (.inl z))
    have hp : ¬ Has P u := fun z => h3 ((a.has u).mpr (.inr z))
    obtain ⟨S, cl, hu⟩ := g.cert u h1 (by omega) hp
    have cl' : Closed N P fun s => S s ∧ s ≠ i := fun s hs => ⟨(cl s hs.1).1, fun x hx => by
      obtain ⟨m, hm, hS⟩ := (cl s hs.1).2 x hx
      exact ⟨m, hm, hS, fun z => g.free ⟨x, z ▸ hm⟩⟩⟩
    refine ⟨fun s => S s ∧ s ≠ i, fun s hs => ⟨(cl' s hs).1, fun x hx => ?_⟩, hu, e⟩
    obtain ⟨m, hm, hS⟩ := (cl' s hs).2 x hx
    exact ⟨m, a.keep _ cl' (fun z => z.2 rfl) x m hm hS, hS⟩⟩
/-- all that the unmatched ones lead to -/
def Un (N : List (List Int)) (P : List (Int × Int)) (s : Int) : Prop := ∃ u S, InR N u ∧ ¬ Has P u ∧ Closed N P S ∧ S u ∧ S s
theorem un_closed (N : List (List Int)) (P : List (Int × Int)) : Closed N P (Un N P) := fun s ⟨u, S, h1, h2, h3, h4, h5⟩ =>
  ⟨(h3 s h5).1, fun a ha => let ⟨m, hm, hS⟩ := (h3 s h5).2 a ha; ⟨m, hm, u, S, h1, h2, h3, h4, hS⟩⟩
theorem Gr.un {N : List (List Int)} {P : List (Int × Int)} (g : Gr N P N.length) {u : Int} (hu : InR N u) (h : ¬ Has P u) : Un N P u := by
  obtain ⟨S, cl, q⟩ := g.cert u hu.1 hu.2 h
  exact ⟨u, S, hu, h, cl, q, q⟩
/-- no matching is greater -/
theorem Gr.max {N : List (List Int)} {P : List (Int × Int)} (g : Gr N P N.length) {P' : List (Int × Int)} (h : Mt N P') : P'.length ≤ P.length := by
  have nd : P'.Nodup := nd_map h.nd
  refine inj_len (R := fun x y => (Un N P x.2 ∧ y.1 = x.1 ∧ Un N P y.2) ∨ (¬ Un N P x.2 ∧ y.2 = x.2)) nd (fun x hx => ?_) fun x hx x' hx' y r r' => ?_
  · have hg := ag_of h.nd (show (x.1, x.2) ∈ P' from hx)
    obtain ⟨hr, hn⟩ := h.ok x.1 x.2 hg
    by_cases hu : Un N P x.2
    · obtain ⟨m, hm, hU⟩ := (un_closed N P x.2 hu).2 x.1 hn
      exact ⟨(x.1, m), of_ag hm, .inl ⟨hu, rfl, hU⟩⟩
    · by_cases hh : Has P x.2
      · obtain ⟨a, ha⟩ := hh
        exact ⟨(a, x.2), of_ag ha, .inr ⟨hu, rfl⟩⟩
      · exact absurd (g.un hr hh) hu
  · have g1 := ag_of h.nd (show (x.1, x.2) ∈ P' from hx)
    have g2 := ag_of h.nd (show (x'.1, x'.2) ∈ P' from hx')
    have key : x.1 = x'.1 → x = x' := fun e => by
      rw [e, g2] at g1
      exact Prod.ext e (Option.some.inj g1).symm
    rcases r with ⟨r1, r2, r3⟩ | ⟨r1, r2⟩
    · rcases r' with ⟨q1, q2, q3⟩ | ⟨q1, q2⟩
      · exact key (r2.symm.trans q2)
      · rw [q2] at r3
        exact absurd r3 q1
    · rcases r' with ⟨q1, q2, q3⟩ | ⟨q1, q2⟩
      · rw [r2] at q3
        exact absurd q3 r1
      · refine key (h.inj x.1 x'.1 x.2 g1 ?_)
        rw [r2.symm.trans q2]
        exact g2
end M
namespace M
open PySem PySem.Spec PyProof.Rows L2 DL

theorem Mt.len {N : List (List Int)} {P : List (Int × Int)} (h : Mt N P) : P.length ≤ N.length := by
  have := inj_len (L' := P) (L := List.map (fun k : Nat => (k : Int)) (List.range N.length)) (R := fun x y => x.2 = y) (nd_map h.nd) (fun x hx => by
    obtain ⟨⟨h0, h1⟩, _⟩ := h.ok x.1 x.2 (ag_of h.nd hx)
    exact ⟨x.2, List.mem_map.mpr ⟨x.2.toNat, by rw [List.mem_range]; omega, by omega⟩, rfl⟩) fun x hx x' hx' y e e' => by
      have g1 := ag_of h.nd (show (x.1, x.2) ∈ P from hx)
      have g2 := ag_of h.nd (show (x'.1, x'.2) ∈ P from hx')
      have e3 : x.2 = x'.2 := e.trans e'.symm
      rw [e3] at g1
      exact Prod.ext (h.inj _ _ _ g1 g2) e3
  simpa using this
/-- others and ones changed about -/
def sw (P : List (Int × Int)) : List (Int × Int) := P.map fun p => (p.2, p.1)
theorem sw_get {N : List (List Int)} {P : List (Int × Int)} (h : Mt N P) (m a : Int) : aget (sw P) m = some a ↔ aget P a = some m := by
  have nd : ((sw P).map (·.1)).Nodup := by
    have go : ∀ l : List (Int × Int), l.Nodup → (∀ x ∈ l, ∀ y ∈ l, x.2 = y.2 → x = y) → ((sw l).map (·.1)).Nodup := by
      intro l
      induction l with
      | nil => intro _ _; exact List.nodup_nil
      | cons x l ih =>
        intro h1 h2
        rw [List.nodup_cons] at h1
        show (x.2 :: (sw l).map (·.1)).Nodup
        refine List.nodup_cons.mpr ⟨fun q => ?_, ih h1.2 fun y hy z hz => h2 y (List.mem_cons_of_mem _ hy) z (List.mem_cons_of_mem _ hz)⟩
        unfold sw at q
        rw [List.map_map, List.mem_map] at q
        obtain ⟨y, hy, e⟩ := q
        have := h2 y (List.mem_cons_of_mem _ hy) x (List.mem_cons_self ..) e
        subst this
        exact h1.1 hy
    refine go P (nd_map h.nd) fun x hx y hy e => ?_
    have g1 := ag_of h.nd (show (x.1, x.2) ∈ P from hx)
    have g2 := ag_of h.nd (show (y.1, y.2) ∈ P from hy)
    rw [e] at g1
    exact Prod.ext (h.inj _ _ _ g1 g2) e
  constructor
  · intro q
    have := of_ag q
    unfold sw at this
    obtain ⟨x, hx, e⟩ := List.mem_map.mp this
    cases e
    exact ag_of h.nd hx
  · intro q
    exact ag_of nd (List.mem_map.mpr ⟨(a, m), of_ag q, rfl⟩)
theorem sw_none {N : List (List Int)} {P : List (Int × Int)} (h : Mt N P) {m : Int} : aget (sw P) m = none ↔ ¬ Has P m := by
  constructor
  · rintro q ⟨a, ha⟩
    rw [(sw_get h m a).mpr ha] at q
    cases q
  · intro q
    cases e : aget (sw P) m with
    | none => rfl
    | some a => exact absurd ⟨a, (sw_get h m a).mp e⟩ q
theorem sw_fresh {N : List (List Int)} {P : List (Int × Int)} (h : Mt N P) {i : Nat} {x : Int × Int} (e : P[i]? = some x) : x.2 ∉ (sw (P.take i)).map (·.1) := by
  intro q
  unfold sw at q
  rw [List.map_map, List.mem_map] at q
  obtain ⟨y, hy, e2⟩ := q
  have g1 := ag_of h.nd (show (x.1, x.2) ∈ P from List.mem_of_getElem? e)
  have g2 := ag_of h.nd (show (y.1, y.2) ∈ P from List.mem_of_mem_take hy)
  have e3 : y.2 = x.2 := e2
  rw [e3] at g2
  have e4 : y = x := Prod.ext (h.inj _ _ _ g2 g1) e3
  subst e4
  have nd := nd_map h.nd
  obtain ⟨j, hj, e5⟩ := List.getElem_of_mem hy
  rw [List.getElem_take] at e5
  obtain ⟨hi, e6⟩ := List.getElem?_eq_some_iff.mp e
  rw [List.length_take] at hj
  have := (List.pairwise_iff_getElem.mp nd) j i (by omega) hi (by omega)
  exact this (e5.trans e6.symm)

/-! ### along -/
def sp_along : DRn := d3 fun c l p G Q => ∃ (N : List (List Int)) (P C : List (Int × Int)) (one last : Int), c = eK .int C ∧ l = .int last ∧ p = eK .int P ∧ N.length ≤ 1000 ∧ C.length ≤ 1001 ∧ Mt N P ∧ Tree N P one C ∧ ¬ Has P one ∧ aget P last = none ∧ last ∈ C.map (·.1) ∧
  ∀ F, Aug N P one F → Q (eK .int F) G
abbrev N_along : List Str := ["comers", "last", "pairs", "found", "other", "mine", "now", "before", "second"]
def T_along : DTS :=
    (dSeq (dPar 3 4 (dCons (dCB dCopyK (dCons (dName 2) dNil)) (dCons (dName 1) dNil)))
    (dSeq (dAsg (dDc (.dK []) (diItems (dName 2)) (gdTup (gdCons (gdName 8) (gdCons (gdName 6) gdNil)) 2) dYes (dName 6) (dName 8) [8, 6]) (gdName 5))
    (dFrz 5 (dSeq (dWhile (dTest (dOp (dIsN true) (dName 4) (dC .non)))
    (dSeq (dAsg (dOp dIx (dName 0) (dName 4)) (gdName 6))
    (dSeq (dAsg (dM "dict" dGet1 (dName 5) (dCons (dName 6) dNil)) (gdName 7))
    (dSeq (dAsg (dName 6) (gdSub (dName 3) (dName 4) dSet))
    (dAsg (dName 7) (gdName 4))))))
    (dRetF (dName 3))))))
theorem len_along : ∀ ds G Q, sp_along ds G Q → ds.length = 3 := fun ds G Q h => by
  match ds, h with
  | [_, _, _], _ => rfl
theorem run_along : ∀ ds G Q, sp_along ds G Q → T_along { nx := fun _ G' => Q .non G', rt := Q } (startD N_along ds) G := fun ds G Q h => by
  match ds, h with
  | [_, _, _], ⟨N, P, C, one, last, rfl, rfl, rfl, hN, hC, mt, tr, fr, hf, hf2, q⟩ =>
    simp only [T_along, N_along, dSeq, dIfS, dTest, dOp, dName, dC, dRet, dLstF, dCons, dNil, dTup, dNext, dAsg, dLstM, gdName, dDrop, dM, dM0, dIf, dAnd, dOr, dNot, dAndV, dOrV, dNotV, dChain, dFz, dRetF, dRetN, dBreak, dCont, dCB, gdTup, gdCons, gdNil, gdSub, dNeg, dAug, dAugS, dFrz, dPar, dNoPart, dPart, dSlice, dYes, wipeD, i2, d1, d2, d3, startD, List.map_cons, List.map_nil, List.length_cons, List.length_nil, List.cons_append, List.nil_append, List.append_nil, List.getElem?_cons_zero, List.getElem?_cons_succ, List.getElem?_nil, List.replicate, List.set_cons_succ, List.set_cons_zero, Nat.reduceAdd, Nat.reduceSub, Nat.reduceLeDiff, run_eqi, run_nei, run_lt, run_le, run_gt, run_ge, run_addi, run_iaddi, true_and, and_true, Bool.not_eq_true, Bool.not_true, Bool.not_false, if_true, if_false, Bool.false_eq_true, ite_true, ite_false, reduceIte, reduceCtorEq, decide_eq_true_eq, decide_eq_false_iff_not, Option.isSome_some, Option.isSome_none, Bool.true_bne, Bool.false_bne]
    refine run_copyK (f := D.int) (kvs := P) (dicK_eK _ _ _) fun p hp => ?_
    simp only [dDc, diItems, dicP_eK, dSeq, dIfS, dTest, dOp, dName, dC, dRet, dLstF, dCons, dNil, dTup, dNext, dAsg, dLstM, gdName, dDrop, dM, dM0, dIf, dAnd, dOr, dNot, dAndV, dOrV, dNotV, dChain, dFz, dRetF, dRetN, dBreak, dCont, dCB, gdTup, gdCons, gdNil, gdSub, dNeg, dAug, dAugS, dFrz, dPar, dNoPart, dPart, dSlice, dYes, wipeD, i2, d1, d2, d3, startD, List.map_cons, List.map_nil, List.length_cons, List.length_nil, List.cons_append, List.nil_append, List.append_nil, List.getElem?_cons_zero, List.getElem?_cons_succ, List.getElem?_nil, List.replicate, List.set_cons_succ, List.set_cons_zero, Nat.reduceAdd, Nat.reduceSub, Nat.reduceLeDiff, run_eqi, run_nei, run_lt, run_le, run_gt, run_ge, run_addi, run_iaddi, true_and, and_true, Bool.not_eq_true, Bool.not_true, Bool.not_false, if_true, if_false, Bool.false_eq_true, ite_true, ite_false, reduceIte, reduceCtorEq, decide_eq_true_eq, decide_eq_false_iff_not, Option.isSome_some, Option.isSome_none, Bool.true_bne, Bool.false_bne]
    intro b hb
    have pb : p ≠ b := fun e => by subst e; rw [up_same] at hb; cases hb
    have hP := mt.len
    refine ⟨fun i G' => G' = up (up G p (oK .int P)) b (oK .int (sw (P.take i))), rfl, ?_, ?_, ?_⟩
    · rintro i G' rfl
      exact ⟨trivial, no_lstK up_same⟩
    · rintro i d G' hd rfl
      rw [List.map_map] at hd
      obtain ⟨x, hx, rfl⟩ := get_map hd
      dsimp only [Function.comp]
      simp only [dSeq, dIfS, dTest, dOp, dName, dC, dRet, dLstF, dCons, dNil, dTup, dNext, dAsg, dLstM, gdName, dDrop, dM, dM0, dIf, dAnd, dOr, dNot, dAndV, dOrV, dNotV, dChain, dFz, dRetF, dRetN, dBreak, dCont, dCB, gdTup, gdCons, gdNil, gdSub, dNeg, dAug, dAugS, dFrz, dPar, dNoPart, dPart, dSlice, dYes, wipeD, i2, d1, d2, d3, startD, List.map_cons, List.map_nil, List.length_cons, List.length_nil, List.cons_append, List.nil_append, List.append_nil, List.getElem?_cons_zero, List.getElem?_cons_succ, List.getElem?_nil, List.replicate, List.set_cons_succ, List.set_cons_zero, Nat.reduceAdd, Nat.reduceSub, Nat.reduceLeDiff, run_eqi, run_nei, run_lt, run_le, run_gt, run_ge, run_addi, run_iaddi, true_and, and_true, Bool.not_eq_true, Bool.not_true, Bool.not_false, if_true, if_false, Bool.false_eq_true, ite_true, ite_false, reduceIte, reduceCtorEq, decide_eq_true_eq, decide_eq_false_iff_not, Option.isSome_some, Option.isSome_none, Bool.true_bne, Bool.false_bne]
      refine ⟨no_lstK up_same, run_setK (kvs := sw (P.take i)) (f := D.int) up_same (small_line (by unfold sw; rw [List.length_map, List.length_take]; omega)) ?_⟩
      rw [up_up, aput_new (sw_fresh mt hx), take_sn hx]
      unfold sw
      rw [List.map_append]
      rfl
    · rintro G' rfl
      rw [List.length_map, List.length_map, List.take_length]
      simp only [up_same, tree_oK, dl_up hb, dSeq, dIfS, dTest, dOp, dName, dC, dRet, dLstF, dCons, dNil, dTup, dNext, dAsg, dLstM, gdName, dDrop, dM, dM0, dIf, dAnd, dOr, dNot, dAndV, dOrV, dNotV, dChain, dFz, dRetF, dRetN, dBreak, dCont, dCB, gdTup, gdCons, gdNil, gdSub, dNeg, dAug, dAugS, dFrz, dPar, dNoPart, dPart, dSlice, dYes, wipeD, i2, d1, d2, d3, startD, List.map_cons, List.map_nil, List.length_cons, List.length_nil, List.cons_append, List.nil_append, List.append_nil, List.getElem?_cons_zero, List.getElem?_cons_succ, List.getElem?_nil, List.replicate, List.set_cons_succ, List.set_cons_zero, Nat.reduceAdd, Nat.reduceSub, Nat.reduceLeDiff, run_eqi, run_nei, run_lt, run_le, run_gt, run_ge, run_addi, run_iaddi, true_and, and_true, Bool.not_eq_true, Bool.not_true, Bool.not_false, if_true, if_false, Bool.false_eq_true, ite_true, ite_false, reduceIte, reduceCtorEq, decide_eq_true_eq, decide_eq_false_iff_not, Option.isSome_some, Option.isSome_none, Bool.true_bne, Bool.false_bne]
      obtain ⟨⟨a0, s0⟩, hm0, e0⟩ := List.mem_map.mp hf2
      simp only at e0
      subst e0
      obtain ⟨k1, k2, ek⟩ := List.append_of_mem hm0
      refine ⟨fun m η G' => ∃ F o nw bf, η = [some (eK D.int C), some (D.int a0), some (eK D.int P), some (D.ref p), some o, some (eK D.int (sw P)), nw, bf, none] ∧ G' = up G p (oK .int F) ∧
        ((m = 0 ∧ o = .non ∧ Aug N P one F) ∨ ∃ l1 a s l2, o = .int a ∧ m = l1.length + 1 ∧ C = l1 ++ (a, s) :: l2 ∧ Bk N P one C l1 F a), ⟨_, P, _, _, _, rfl, rfl, .inr ⟨k1, a0, s0, k2, rfl, rfl, ek, .start mt ek hf⟩⟩, ?_⟩
      rintro m η G' ⟨F, o, nw, bf, rfl, rfl, st⟩
      rcases st with ⟨rfl, rfl, au⟩ | ⟨l1, a, s, l2, rfl, rfl, e, bk⟩
      · simp only [isn_non, up_same, tree_oK, dl_up hp, dSeq, dIfS, dTest, dOp, dName, dC, dRet, dLstF, dCons, dNil, dTup, dNext, dAsg, dLstM, gdName, dDrop, dM, dM0, dIf, dAnd, dOr, dNot, dAndV, dOrV, dNotV, dChain, dFz, dRetF, dRetN, dBreak, dCont, dCB, gdTup, gdCons, gdNil, gdSub, dNeg, dAug, dAugS, dFrz, dPar, dNoPart, dPart, dSlice, dYes, wipeD, i2, d1, d2, d3, startD, List.map_cons, List.map_nil, List.length_cons, List.length_nil, List.cons_append, List.nil_append, List.append_nil, List.getElem?_cons_zero, List.getElem?_cons_succ, List.getElem?_nil, List.replicate, List.set_cons_succ, List.set_cons_zero, Nat.reduceAdd, Nat.reduceSub, Nat.reduceLeDiff, run_eqi, run_nei, run_lt, run_le, run_gt, run_ge, run_addi, run_iaddi, true_and, and_true, Bool.not_eq_true, Bool.not_true, Bool.not_false, if_true, if_false, Bool.false_eq_true, ite_true, ite_false, reduceIte, reduceCtorEq, decide_eq_true_eq, decide_eq_false_iff_not, Option.isSome_some, Option.isSome_none, Bool.true_bne, Bool.false_bne]
        exact q F au
      · simp only [isn_int, dSeq, dIfS, dTest, dOp, dName, dC, dRet, dLstF, dCons, dNil, dTup, dNext, dAsg, dLstM, gdName, dDrop, dM, dM0, dIf, dAnd, dOr, dNot, dAndV, dOrV, dNotV, dChain, dFz, dRetF, dRetN, dBreak, dCont, dCB, gdTup, gdCons, gdNil, gdSub, dNeg, dAug, dAugS, dFrz, dPar, dNoPart, dPart, dSlice, dYes, wipeD, i2, d1, d2, d3, startD, List.map_cons, List.map_nil, List.length_cons, List.length_nil, List.cons_append, List.nil_append, List.append_nil, List.getElem?_cons_zero, List.getElem?_cons_succ, List.getElem?_nil, List.replicate, List.set_cons_succ, List.set_cons_zero, Nat.reduceAdd, Nat.reduceSub, Nat.reduceLeDiff, run_eqi, run_nei, run_lt, run_le, run_gt, run_ge, run_addi, run_iaddi, true_and, and_true, Bool.not_eq_true, Bool.not_true, Bool.not_false, if_true, if_false, Bool.false_eq_true, ite_true, ite_false, reduceIte, reduceCtorEq, decide_eq_true_eq, decide_eq_false_iff_not, Option.isSome_some, Option.isSome_none, Bool.true_bne, Bool.false_bne]
        refine run_ixK (f := D.int) (dicK_eK _ _ _) (tr.get e) ?_
        refine ⟨ty_eK, run_get1K (f := D.int) (dicK_eK _ _ _) ?_⟩
        refine run_setK (f := D.int) (kvs := F) up_same (small_line (by have := bk.len; omega)) ?_
        rw [up_up]
        cases hb2 : aget (sw P) s with
        | none =>
          exact ⟨0, by omega, _, (by repeat (first | exact Le.nil | apply Le.keep | apply Le.drop)), aput F a s, .non, _, _, rfl, rfl, .inl ⟨rfl, rfl, bk.fin mt tr e fr ((sw_none mt).mp hb2)⟩⟩
        | some c =>
          obtain ⟨l3, u, l4, e2, hl3, bk2⟩ := bk.step mt tr e fr ((sw_get mt s c).mp hb2)
          exact ⟨l3.length + 1, by omega, _, (by repeat (first | exact Le.nil | apply Le.keep | apply Le.drop)), aput F a s, .int c, _, _, rfl, rfl, .inr ⟨l3, c, u, l4, rfl, rfl, e2, bk2⟩⟩
end M
namespace M
open PySem PySem.Spec PyProof.Rows L2 DL

/-! ### augmented -/
/-- lists of ints, one behind the other -/
abbrev eN (N : List (List Int)) : D := eL (eL .int) N
def sp_augmented : DRn := d3 fun n o p G Q => ∃ (N : List (List Int)) (P : List (Int × Int)) (one : Int), n = eN N ∧ o = .int one ∧ p = eK .int P ∧ N.length ≤ 1000 ∧ Mt N P ∧ InR N one ∧ ¬ Has P one ∧
  ((∃ S, Closed N P S ∧ S one) → Q .non G) ∧ ∀ F, Aug N P one F → Q (eK .int F) G
abbrev N_augmented : List Str := ["nexts", "one", "pairs", "comers", "waiting", "now", "other"]
def T_augmented : DTS :=
    (dSeq (dPar 3 4 (dCons dNewK (dCons (dLstM (dCons (dName 1) dNil)) dNil)))
    (dSeq (dWhile (dTest (dOp dNe (dName 4) (dLstF dNil)))
    (dSeq (dAsg (dM "list" dPopAt (dName 4) (dCons (dC (.int 0)) dNil)) (gdName 5))
    (dFor (diSeq (dOp dIx (dName 0) (dName 5))) (gdName 6)
    (dIfS (dTest (dOp (dIn true) (dName 6) (dName 3)))
    (dSeq (dAsg (dName 5) (gdSub (dName 3) (dName 6) dSet))
    (dSeq (dIfS (dTest (dOp (dIn true) (dName 6) (dName 2)))
    (dFrz 4 (dFrz 3 (dRet (dCB sp_along (dCons (dName 3) (dCons (dName 6) (dCons (dName 2) dNil)))))))
    dNext)
    (dDrop (dM "list" dAppend (dName 4) (dCons (dOp dIx (dName 2) (dName 6)) dNil)))))
    dNext))))
    (dFrz 4 (dFrz 3 (dRet (dC .non))))))
theorem len_augmented : ∀ ds G Q, sp_augmented ds G Q → ds.length = 3 := fun ds G Q h => by
  match ds, h with
  | [_, _, _], _ => rfl
theorem nxt_at {N : List (List Int)} {s : Int} (h : InR N s) : N[s.toNat]? = some (nxt N s) := by
  unfold nxt
  have : s.toNat < N.length := by have := h.1; have := h.2; omega
  rw [List.getElem?_eq_getElem this]
  rfl
theorem dl2 {G : DHp} {c w : Addr} {x y : DO} (hc : G c = none) (hw : up G c x w = none) : dl (dl (up (up G c x) w y) w) c = G := by
  rw [dl_up hw, dl_up hc]
theorem cw_ne {G : DHp} {c w : Addr} {x : DO} (hw : up G c x w = none) : c ≠ w := fun e => by subst e; rw [up_same] at hw; cases hw
theorem up3c {G : DHp} {c w : Addr} {x x' y : DO} (h : c ≠ w) : up (up (up G c x) w y) c x' = up (up G c x') w y := up3 h
theorem run_augmented : ∀ ds G Q, sp_augmented ds G Q → T_augmented { nx := fun _ G' => Q .non G', rt := Q } (startD N_augmented ds) G := fun ds G Q h => by
  match ds, h with
  | [_, _, _], ⟨N, P, one, rfl, rfl, rfl, hN, mt, ho, fr, q1, q2⟩ =>
    simp only [T_augmented, N_augmented, dNewK, dSeq, dIfS, dTest, dOp, dName, dC, dRet, dLstF, dCons, dNil, dTup, dNext, dAsg, dLstM, gdName, dDrop, dM, dM0, dIf, dAnd, dOr, dNot, dAndV, dOrV, dNotV, dChain, dFz, dRetF, dRetN, dBreak, dCont, dCB, gdTup, gdCons, gdNil, gdSub, dNeg, dAug, dAugS, dFrz, dPar, dNoPart, dPart, dSlice, dYes, wipeD, i2, d1, d2, d3, startD, List.map_cons, List.map_nil, List.length_cons, List.length_nil, List.cons_append, List.nil_append, List.append_nil, List.getElem?_cons_zero, List.getElem?_cons_succ, List.getElem?_nil, List.replicate, List.set_cons_succ, List.set_cons_zero, Nat.reduceAdd, Nat.reduceSub, Nat.reduceLeDiff, run_eqi, run_nei, run_lt, run_le, run_gt, run_ge, run_addi, run_iaddi, true_and, and_true, Bool.not_eq_true, Bool.not_true, Bool.not_false, if_true, if_false, Bool.false_eq_true, ite_true, ite_false, reduceIte, reduceCtorEq, decide_eq_true_eq, decide_eq_false_iff_not, Option.isSome_some, Option.isSome_none, Bool.true_bne, Bool.false_bne]
    intro c hc
    intro w hw
    have cw := cw_ne hw
    have hP := mt.len
    refine ⟨fun m η G' => ∃ C L nw ot, η = [some (eN N), some (.int one), some (eK .int P), some (.ref c), some (.ref w), nw, ot] ∧ G' = up (up G c (oK .int C)) w (.lst (L.map .int)) ∧ Bw N P one C L ∧ m + 2 * C.length = L.length + 2 * P.length ∧ m ≤ 1 + 2 * P.length, ⟨1 + 2 * P.length, [], [one], none, none, rfl, rfl, .start, by simp, Nat.le_refl _⟩, ?_⟩
    rintro m η G' ⟨C, L, nw, ot, rfl, rfl, bw, hm, hmb⟩
    have hw' : up G c (oK .int C) w = none := by rw [up_ne (Ne.symm cw)]; rw [up_ne (Ne.symm cw)] at hw; exact hw
    have hC := bw.le mt
    simp only [dSeq, dIfS, dTest, dOp, dName, dC, dRet, dLstF, dCons, dNil, dTup, dNext, dAsg, dLstM, gdName, dDrop, dM, dM0, dIf, dAnd, dOr, dNot, dAndV, dOrV, dNotV, dChain, dFz, dRetF, dRetN, dBreak, dCont, dCB, gdTup, gdCons, gdNil, gdSub, dNeg, dAug, dAugS, dFrz, dPar, dNoPart, dPart, dSlice, dYes, wipeD, i2, d1, d2, d3, startD, List.map_cons, List.map_nil, List.length_cons, List.length_nil, List.cons_append, List.nil_append, List.append_nil, List.getElem?_cons_zero, List.getElem?_cons_succ, List.getElem?_nil, List.replicate, List.set_cons_succ, List.set_cons_zero, Nat.reduceAdd, Nat.reduceSub, Nat.reduceLeDiff, run_eqi, run_nei, run_lt, run_le, run_gt, run_ge, run_addi, run_iaddi, true_and, and_true, Bool.not_eq_true, Bool.not_true, Bool.not_false, if_true, if_false, Bool.false_eq_true, ite_true, ite_false, reduceIte, reduceCtorEq, decide_eq_true_eq, decide_eq_false_iff_not, Option.isSome_some, Option.isSome_none, Bool.true_bne, Bool.false_bne]
    refine run_neI up_same ?_
    cases L with
    | nil =>
      simp only [List.isEmpty_nil, up_same, dl_up hw', dl_up hc, dSeq, dIfS, dTest, dOp, dName, dC, dRet, dLstF, dCons, dNil, dTup, dNext, dAsg, dLstM, gdName, dDrop, dM, dM0, dIf, dAnd, dOr, dNot, dAndV, dOrV, dNotV, dChain, dFz, dRetF, dRetN, dBreak, dCont, dCB, gdTup, gdCons, gdNil, gdSub, dNeg, dAug, dAugS, dFrz, dPar, dNoPart, dPart, dSlice, dYes, wipeD, i2, d1, d2, d3, startD, List.map_cons, List.map_nil, List.length_cons, List.length_nil, List.cons_append, List.nil_append, List.append_nil, List.getElem?_cons_zero, List.getElem?_cons_succ, List.getElem?_nil, List.replicate, List.set_cons_succ, List.set_cons_zero, Nat.reduceAdd, Nat.reduceSub, Nat.reduceLeDiff, run_eqi, run_nei, run_lt, run_le, run_gt, run_ge, run_addi, run_iaddi, true_and, and_true, Bool.not_eq_true, Bool.not_true, Bool.not_false, if_true, if_false, Bool.false_eq_true, ite_true, ite_false, reduceIte, reduceCtorEq, decide_eq_true_eq, decide_eq_false_iff_not, Option.isSome_some, Option.isSome_none, Bool.true_bne, Bool.false_bne]
      exact q1 (bw.close mt ho)
    | cons now L =>
      simp only [List.isEmpty_cons, diSeq, dSeq, dIfS, dTest, dOp, dName, dC, dRet, dLstF, dCons, dNil, dTup, dNext, dAsg, dLstM, gdName, dDrop, dM, dM0, dIf, dAnd, dOr, dNot, dAndV, dOrV, dNotV, dChain, dFz, dRetF, dRetN, dBreak, dCont, dCB, gdTup, gdCons, gdNil, gdSub, dNeg, dAug, dAugS, dFrz, dPar, dNoPart, dPart, dSlice, dYes, wipeD, i2, d1, d2, d3, startD, List.map_cons, List.map_nil, List.length_cons, List.length_nil, List.cons_append, List.nil_append, List.append_nil, List.getElem?_cons_zero, List.getElem?_cons_succ, List.getElem?_nil, List.replicate, List.set_cons_succ, List.set_cons_zero, Nat.reduceAdd, Nat.reduceSub, Nat.reduceLeDiff, run_eqi, run_nei, run_lt, run_le, run_gt, run_ge, run_addi, run_iaddi, true_and, and_true, Bool.not_eq_true, Bool.not_true, Bool.not_false, if_true, if_false, Bool.false_eq_true, ite_true, ite_false, reduceIte, reduceCtorEq, decide_eq_true_eq, decide_eq_false_iff_not, Option.isSome_some, Option.isSome_none, Bool.true_bne, Bool.false_bne]
      refine run_pop0 up_same ?_
      have hn : InR N now := (bw.lst now (by simp)).inR mt ho
      simp only [dFor, diSeq, dSeq, dIfS, dTest, dOp, dName, dC, dRet, dLstF, dCons, dNil, dTup, dNext, dAsg, dLstM, gdName, dDrop, dM, dM0, dIf, dAnd, dOr, dNot, dAndV, dOrV, dNotV, dChain, dFz, dRetF, dRetN, dBreak, dCont, dCB, gdTup, gdCons, gdNil, gdSub, dNeg, dAug, dAugS, dFrz, dPar, dNoPart, dPart, dSlice, dYes, wipeD, i2, d1, d2, d3, startD, List.map_cons, List.map_nil, List.length_cons, List.length_nil, List.cons_append, List.nil_append, List.append_nil, List.getElem?_cons_zero, List.getElem?_cons_succ, List.getElem?_nil, List.replicate, List.set_cons_succ, List.set_cons_zero, Nat.reduceAdd, Nat.reduceSub, Nat.reduceLeDiff, run_eqi, run_nei, run_lt, run_le, run_gt, run_ge, run_addi, run_iaddi, true_and, and_true, Bool.not_eq_true, Bool.not_true, Bool.not_false, if_true, if_false, Bool.false_eq_true, ite_true, ite_false, reduceIte, reduceCtorEq, decide_eq_true_eq, decide_eq_false_iff_not, Option.isSome_some, Option.isSome_none, Bool.true_bne, Bool.false_bne]
      refine run_ixL (f := eL .int) hn.1 (nxt_at hn) ?_
      unfold eL
      dsimp only
      rw [up_up]
      refine ⟨fun i η G' => ∃ C L ot, η = [some (eN N), some (.int one), some (eK .int P), some (.ref c), some (.ref w), some (.int now), ot] ∧ G' = up (up G c (oK .int C)) w (.lst (L.map .int)) ∧ Bf N P one C L now i ∧ L.length + 2 * P.length + 1 ≤ m + 2 * C.length, ⟨C, L, ot, rfl, rfl, bw.pop, by rw [List.length_cons] at hm; omega⟩, fun _ _ _ _ => trivial, ?_, ?_⟩
      · rintro i d η G' hd ⟨C, L, ot, rfl, rfl, bf, hm2⟩
        obtain ⟨a, ha, rfl⟩ := get_map hd
        have hw' : up G c (oK .int C) w = none := by rw [up_ne (Ne.symm cw)]; rw [up_ne (Ne.symm cw)] at hw; exact hw
        have hcc : up (up G c (oK .int C)) w (.lst (L.map .int)) c = some (oK .int C) := by rw [up_ne cw, up_same]
        have hC2 := bf.le mt
        simp only [dSeq, dIfS, dTest, dOp, dName, dC, dRet, dLstF, dCons, dNil, dTup, dNext, dAsg, dLstM, gdName, dDrop, dM, dM0, dIf, dAnd, dOr, dNot, dAndV, dOrV, dNotV, dChain, dFz, dRetF, dRetN, dBreak, dCont, dCB, gdTup, gdCons, gdNil, gdSub, dNeg, dAug, dAugS, dFrz, dPar, dNoPart, dPart, dSlice, dYes, wipeD, i2, d1, d2, d3, startD, List.map_cons, List.map_nil, List.length_cons, List.length_nil, List.cons_append, List.nil_append, List.append_nil, List.getElem?_cons_zero, List.getElem?_cons_succ, List.getElem?_nil, List.replicate, List.set_cons_succ, List.set_cons_zero, Nat.reduceAdd, Nat.reduceSub, Nat.reduceLeDiff, run_eqi, run_nei, run_lt, run_le, run_gt, run_ge, run_addi, run_iaddi, true_and, and_true, Bool.not_eq_true, Bool.not_true, Bool.not_false, if_true, if_false, Bool.false_eq_true, ite_true, ite_false, reduceIte, reduceCtorEq, decide_eq_true_eq, decide_eq_false_iff_not, Option.isSome_some, Option.isSome_none, Bool.true_bne, Bool.false_bne]
        refine run_inK (f := D.int) (dicK_ref hcc) ?_
        cases hg : aget C a with
        | some z =>
          simp only [dSeq, dIfS, dTest, dOp, dName, dC, dRet, dLstF, dCons, dNil, dTup, dNext, dAsg, dLstM, gdName, dDrop, dM, dM0, dIf, dAnd, dOr, dNot, dAndV, dOrV, dNotV, dChain, dFz, dRetF, dRetN, dBreak, dCont, dCB, gdTup, gdCons, gdNil, gdSub, dNeg, dAug, dAugS, dFrz, dPar, dNoPart, dPart, dSlice, dYes, wipeD, i2, d1, d2, d3, startD, List.map_cons, List.map_nil, List.length_cons, List.length_nil, List.cons_append, List.nil_append, List.append_nil, List.getElem?_cons_zero, List.getElem?_cons_succ, List.getElem?_nil, List.replicate, List.set_cons_succ, List.set_cons_zero, Nat.reduceAdd, Nat.reduceSub, Nat.reduceLeDiff, run_eqi, run_nei, run_lt, run_le, run_gt, run_ge, run_addi, run_iaddi, true_and, and_true, Bool.not_eq_true, Bool.not_true, Bool.not_false, if_true, if_false, Bool.false_eq_true, ite_true, ite_false, reduceIte, reduceCtorEq, decide_eq_true_eq, decide_eq_false_iff_not, Option.isSome_some, Option.isSome_none, Bool.true_bne, Bool.false_bne]
          have hk : a ∈ C.map (·.1) := (aget_mem C a).mp (by rw [hg]; rfl)
          exact ⟨_, (by repeat (first | exact Le.nil | apply Le.keep | apply Le.drop)), C, L, _, rfl, rfl, bf.skip ha hk, hm2⟩
        | none =>
          simp only [dSeq, dIfS, dTest, dOp, dName, dC, dRet, dLstF, dCons, dNil, dTup, dNext, dAsg, dLstM, gdName, dDrop, dM, dM0, dIf, dAnd, dOr, dNot, dAndV, dOrV, dNotV, dChain, dFz, dRetF, dRetN, dBreak, dCont, dCB, gdTup, gdCons, gdNil, gdSub, dNeg, dAug, dAugS, dFrz, dPar, dNoPart, dPart, dSlice, dYes, wipeD, i2, d1, d2, d3, startD, List.map_cons, List.map_nil, List.length_cons, List.length_nil, List.cons_append, List.nil_append, List.append_nil, List.getElem?_cons_zero, List.getElem?_cons_succ, List.getElem?_nil, List.replicate, List.set_cons_succ, List.set_cons_zero, Nat.reduceAdd, Nat.reduceSub, Nat.reduceLeDiff, run_eqi, run_nei, run_lt, run_le, run_gt, run_ge, run_addi, run_iaddi, true_and, and_true, Bool.not_eq_true, Bool.not_true, Bool.not_false, if_true, if_false, Bool.false_eq_true, ite_true, ite_false, reduceIte, reduceCtorEq, decide_eq_true_eq, decide_eq_false_iff_not, Option.isSome_some, Option.isSome_none, Bool.true_bne, Bool.false_bne]
          have hk := ag_key hg
          refine run_setK (f := D.int) (kvs := C) hcc (small_line (by omega)) ?_
          rw [aput_new hk, up3c cw]
          have hcc2 : up (up G c (oK .int (C ++ [(a, now)]))) w (.lst (L.map .int)) c = some (oK .int (C ++ [(a, now)])) := by rw [up_ne cw, up_same]
          have hw2 : up G c (oK .int (C ++ [(a, now)])) w = none := by rw [up_ne (Ne.symm cw)]; rw [up_ne (Ne.symm cw)] at hw; exact hw
          refine run_inK (f := D.int) (dicK_eK _ _ _) ?_
          cases hp : aget P a with
          | none =>
            simp only [up_same, hcc2, dl_up hw2, dl_up hc, dSeq, dIfS, dTest, dOp, dName, dC, dRet, dLstF, dCons, dNil, dTup, dNext, dAsg, dLstM, gdName, dDrop, dM, dM0, dIf, dAnd, dOr, dNot, dAndV, dOrV, dNotV, dChain, dFz, dRetF, dRetN, dBreak, dCont, dCB, gdTup, gdCons, gdNil, gdSub, dNeg, dAug, dAugS, dFrz, dPar, dNoPart, dPart, dSlice, dYes, wipeD, i2, d1, d2, d3, startD, List.map_cons, List.map_nil, List.length_cons, List.length_nil, List.cons_append, List.nil_append, List.append_nil, List.getElem?_cons_zero, List.getElem?_cons_succ, List.getElem?_nil, List.replicate, List.set_cons_succ, List.set_cons_zero, Nat.reduceAdd, Nat.reduceSub, Nat.reduceLeDiff, run_eqi, run_nei, run_lt, run_le, run_gt, run_ge, run_addi, run_iaddi, true_and, and_true, Bool.not_eq_true, Bool.not_true, Bool.not_false, if_true, if_false, Bool.false_eq_true, ite_true, ite_false, reduceIte, reduceCtorEq, decide_eq_true_eq, decide_eq_false_iff_not, Option.isSome_some, Option.isSome_none, Bool.true_bne, Bool.false_bne]
            exact ⟨N, P, C ++ [(a, now)], one, a, rfl, rfl, rfl, hN, by rw [List.length_append, List.length_singleton]; omega, mt, bf.tree' mt ho ha hk, fr, hp, by simp, fun F au => q2 F au⟩
          | some z =>
            simp only [dSeq, dIfS, dTest, dOp, dName, dC, dRet, dLstF, dCons, dNil, dTup, dNext, dAsg, dLstM, gdName, dDrop, dM, dM0, dIf, dAnd, dOr, dNot, dAndV, dOrV, dNotV, dChain, dFz, dRetF, dRetN, dBreak, dCont, dCB, gdTup, gdCons, gdNil, gdSub, dNeg, dAug, dAugS, dFrz, dPar, dNoPart, dPart, dSlice, dYes, wipeD, i2, d1, d2, d3, startD, List.map_cons, List.map_nil, List.length_cons, List.length_nil, List.cons_append, List.nil_append, List.append_nil, List.getElem?_cons_zero, List.getElem?_cons_succ, List.getElem?_nil, List.replicate, List.set_cons_succ, List.set_cons_zero, Nat.reduceAdd, Nat.reduceSub, Nat.reduceLeDiff, run_eqi, run_nei, run_lt, run_le, run_gt, run_ge, run_addi, run_iaddi, true_and, and_true, Bool.not_eq_true, Bool.not_true, Bool.not_false, if_true, if_false, Bool.false_eq_true, ite_true, ite_false, reduceIte, reduceCtorEq, decide_eq_true_eq, decide_eq_false_iff_not, Option.isSome_some, Option.isSome_none, Bool.true_bne, Bool.false_bne]
            have hLl : L.length < 1000000 := by omega
            refine ⟨by simp only [tyD, up_same], run_ixK (f := D.int) (dicK_eK _ _ _) hp ?_⟩
            refine (run_app (xs := L.map .int) up_same (small_line (by rw [List.length_map]; exact Nat.le_of_lt hLl)) ?_).2
            rw [up_up]
            refine ⟨_, (by repeat (first | exact Le.nil | apply Le.keep | apply Le.drop)), C ++ [(a, now)], L ++ [z], _, rfl, by rw [List.map_append]; rfl, bf.push mt ho ha hk hp, by simp only [List.length_append, List.length_singleton]; omega⟩
      · rintro η G' ⟨C, L, ot, rfl, rfl, bf, hm2⟩
        have hC2 := bf.le mt
        rw [List.length_map] at bf
        exact ⟨L.length + 2 * P.length - 2 * C.length, by omega, _, (by repeat (first | exact Le.nil | apply Le.keep | apply Le.drop)), C, L, _, _, rfl, rfl, bf.end_, by omega, by omega⟩
end M
namespace M
open PySem PySem.Spec PyProof.Rows L2 DL

/-! ### greatest -/
theorem ag_perm {α β : Type} [DecidableEq α] {P P' : List (α × β)} (p : P'.Perm P) (nd : (P.map (·.1)).Nodup) (a : α) : aget P' a = aget P a := by
  have nd' : (P'.map (·.1)).Nodup := (p.map (·.1)).nodup_iff.mpr nd
  cases h : aget P a with
  | some m => exact ag_of nd' (p.mem_iff.mpr (of_ag h))
  | none =>
    cases h' : aget P' a with
    | none => rfl
    | some m => rw [ag_of nd (p.mem_iff.mp (of_ag h'))] at h; cases h
theorem Gr.perm {N : List (List Int)} {P P' : List (Int × Int)} {i : Int} (g : Gr N P i) (p : P'.Perm P) : Gr N P' i := by
  have e : ∀ a, aget P' a = aget P a := ag_perm p g.mt.nd
  have hs : ∀ m, Has P' m ↔ Has P m := fun m => by unfold Has; simp only [e]
  refine ⟨⟨(p.map (·.1)).nodup_iff.mpr g.mt.nd, fun a b m h1 h2 => g.mt.inj a b m (by rw [← e]; exact h1) (by rw [← e]; exact h2), fun a m h => g.mt.ok a m (by rw [← e]; exact h)⟩, fun m h => g.lt m ((hs m).mp h), fun u h1 h2 h3 => ?_⟩
  obtain ⟨S, cl, q⟩ := g.cert u h1 h2 fun z => h3 ((hs u).mpr z)
  refine ⟨S, fun s z => ?_, q⟩
  obtain ⟨h4, h5⟩ := cl s z
  exact ⟨h4, fun a ha => by rw [e]; exact h5 a ha⟩
theorem isn_eK {β : Type} {f : β → D} {kvs : List (Int × β)} {G : DHp} {Q : DVK} : dIsN true (eK f kvs) .non G Q = Q (.bl true) G := rfl
def sp_greatest : DRn := d1 fun n G Q => ∃ N : List (List Int), n = eN N ∧ N.length ≤ 1000 ∧ ∀ P, Gr N P N.length → Q (eK .int (sw P)) G
abbrev N_greatest : List Str := ["nexts", "pairs", "one", "late", "other"]
def T_greatest : DTS :=
    (dSeq (dAsg (dFz dNewK) (gdName 1))
    (dSeq (dFor (diRange1 (dCons (dCB dLen (dCons (dName 0) dNil)) dNil)) (gdName 2)
    (dSeq (dAsg (dCB sp_augmented (dCons (dName 0) (dCons (dName 2) (dCons (dName 1) dNil)))) (gdName 3))
    (dIfS (dTest (dOp (dIsN true) (dName 3) (dC .non)))
    (dAsg (dName 3) (gdName 1))
    dNext)))
    (dRet (dFz (dDc (.dK []) (diSeq (dFz (dSortedI (dName 1)))) (gdTup (gdCons (gdName 4) (gdCons (gdName 2) gdNil)) 2) dYes (dName 2) (dName 4) [4, 2])))))
theorem len_greatest : ∀ ds G Q, sp_greatest ds G Q → ds.length = 1 := fun ds G Q h => by
  match ds, h with
  | [_], _ => rfl
theorem dep_e2 (p : Int × Int) : (py (e2 p)).depth ≤ 60 := Nat.le_trans (depth_tup (B := 0) fun d hd => by
  simp only [List.mem_cons, List.not_mem_nil, or_false] at hd
  rcases hd with rfl | rfl <;> exact Nat.le_of_eq (depth_int _)) (by decide)
theorem run_sortI {P : List (Int × Int)} {T : DTE} {η : DSt} {G : DHp} {Q : DVK} (hT : ∀ R : DVK, R (eK .int P) G → T η G R) (q : ∀ p, G p = none → Q (.ref p) (up G p (.lst ((srtT e2 P).map e2)))) : dSortedI T η G Q := by
  refine hT _ ?_
  rw [dicP_eK]
  have e : prD (P.map fun p => (D.int p.1, D.int p.2)) = P.map e2 := by
    unfold prD
    rw [List.map_map]
    rfl
  show Srts (prD (P.map fun p => (D.int p.1, D.int p.2))) ∧ ∀ p, G p = none → Q (.ref p) (up G p (.lst (srt (prD (P.map fun p => (D.int p.1, D.int p.2))))))
  rw [e]
  refine ⟨⟨cleans_plain (cleans_map (fun _ => rfl) P), ?_, st2 P, fun d hd => ?_⟩, fun p hp => by rw [srt_map]; exact q p hp⟩
  · rw [List.map_map]; exact PySem.W.AllAlike.of al2
  · obtain ⟨a, _, rfl⟩ := List.mem_map.mp hd; exact dep_e2 a
theorem run_greatest : ∀ ds G Q, sp_greatest ds G Q → T_greatest { nx := fun _ G' => Q .non G', rt := Q } (startD N_greatest ds) G := fun ds G Q h => by
  match ds, h with
  | [_], ⟨N, rfl, hN, q⟩ =>
    simp only [T_greatest, N_greatest, dNewK, dSeq, dIfS, dTest, dOp, dName, dC, dRet, dLstF, dCons, dNil, dTup, dNext, dAsg, dLstM, gdName, dDrop, dM, dM0, dIf, dAnd, dOr, dNot, dAndV, dOrV, dNotV, dChain, dFz, dRetF, dRetN, dBreak, dCont, dCB, gdTup, gdCons, gdNil, gdSub, dNeg, dAug, dAugS, dFrz, dPar, dNoPart, dPart, dSlice, dYes, wipeD, i2, d1, d2, d3, startD, List.map_cons, List.map_nil, List.length_cons, List.length_nil, List.cons_append, List.nil_append, List.append_nil, List.getElem?_cons_zero, List.getElem?_cons_succ, List.getElem?_nil, List.replicate, List.set_cons_succ, List.set_cons_zero, Nat.reduceAdd, Nat.reduceSub, Nat.reduceLeDiff, run_eqi, run_nei, run_lt, run_le, run_gt, run_ge, run_addi, run_iaddi, true_and, and_true, Bool.not_eq_true, Bool.not_true, Bool.not_false, if_true, if_false, Bool.false_eq_true, ite_true, ite_false, reduceIte, reduceCtorEq, decide_eq_true_eq, decide_eq_false_iff_not, Option.isSome_some, Option.isSome_none, Bool.true_bne, Bool.false_bne]
    intro p hp
    simp only [up_same, dl_up hp, dFor, diRange1, run_len_eL, dSeq, dIfS, dTest, dOp, dName, dC, dRet, dLstF, dCons, dNil, dTup, dNext, dAsg, dLstM, gdName, dDrop, dM, dM0, dIf, dAnd, dOr, dNot, dAndV, dOrV, dNotV, dChain, dFz, dRetF, dRetN, dBreak, dCont, dCB, gdTup, gdCons, gdNil, gdSub, dNeg, dAug, dAugS, dFrz, dPar, dNoPart, dPart, dSlice, dYes, wipeD, i2, d1, d2, d3, startD, List.map_cons, List.map_nil, List.length_cons, List.length_nil, List.cons_append, List.nil_append, List.append_nil, List.getElem?_cons_zero, List.getElem?_cons_succ, List.getElem?_nil, List.replicate, List.set_cons_succ, List.set_cons_zero, Nat.reduceAdd, Nat.reduceSub, Nat.reduceLeDiff, run_eqi, run_nei, run_lt, run_le, run_gt, run_ge, run_addi, run_iaddi, true_and, and_true, Bool.not_eq_true, Bool.not_true, Bool.not_false, if_true, if_false, Bool.false_eq_true, ite_true, ite_false, reduceIte, reduceCtorEq, decide_eq_true_eq, decide_eq_false_iff_not, Option.isSome_some, Option.isSome_none, Bool.true_bne, Bool.false_bne]
    refine ⟨⟨by omega, by omega⟩, fun i η G' => ∃ P on lt, η = [some (eN N), some (eK .int P), on, lt, none] ∧ G' = G ∧ Gr N P i, ⟨[], none, none, rfl, rfl, .start N⟩, fun _ _ _ _ => trivial, ?_, ?_⟩
    · rintro i d η G' hd ⟨P, on, lt, rfl, rfl, g⟩
      obtain ⟨a, ha, rfl⟩ := get_map hd
      have ea : a = (i : Int) ∧ i < N.length := by
        have hi := (List.getElem?_eq_some_iff.mp ha).1
        rw [len_range] at hi
        refine ⟨?_, by omega⟩
        simp only [rangeL, List.getElem?_map, List.getElem?_range hi, Option.map_some, Option.some.injEq] at ha
        omega
      obtain ⟨rfl, hi⟩ := ea
      simp only [dSeq, dIfS, dTest, dOp, dName, dC, dRet, dLstF, dCons, dNil, dTup, dNext, dAsg, dLstM, gdName, dDrop, dM, dM0, dIf, dAnd, dOr, dNot, dAndV, dOrV, dNotV, dChain, dFz, dRetF, dRetN, dBreak, dCont, dCB, gdTup, gdCons, gdNil, gdSub, dNeg, dAug, dAugS, dFrz, dPar, dNoPart, dPart, dSlice, dYes, wipeD, i2, d1, d2, d3, startD, List.map_cons, List.map_nil, List.length_cons, List.length_nil, List.cons_append, List.nil_append, List.append_nil, List.getElem?_cons_zero, List.getElem?_cons_succ, List.getElem?_nil, List.replicate, List.set_cons_succ, List.set_cons_zero, Nat.reduceAdd, Nat.reduceSub, Nat.reduceLeDiff, run_eqi, run_nei, run_lt, run_le, run_gt, run_ge, run_addi, run_iaddi, true_and, and_true, Bool.not_eq_true, Bool.not_true, Bool.not_false, if_true, if_false, Bool.false_eq_true, ite_true, ite_false, reduceIte, reduceCtorEq, decide_eq_true_eq, decide_eq_false_iff_not, Option.isSome_some, Option.isSome_none, Bool.true_bne, Bool.false_bne]
      refine ⟨N, P, _, rfl, rfl, rfl, hN, g.mt, ⟨by omega, by omega⟩, g.free, fun h => ?_, fun F au => ?_⟩
      · simp only [isn_non, dSeq, dIfS, dTest, dOp, dName, dC, dRet, dLstF, dCons, dNil, dTup, dNext, dAsg, dLstM, gdName, dDrop, dM, dM0, dIf, dAnd, dOr, dNot, dAndV, dOrV, dNotV, dChain, dFz, dRetF, dRetN, dBreak, dCont, dCB, gdTup, gdCons, gdNil, gdSub, dNeg, dAug, dAugS, dFrz, dPar, dNoPart, dPart, dSlice, dYes, wipeD, i2, d1, d2, d3, startD, List.map_cons, List.map_nil, List.length_cons, List.length_nil, List.cons_append, List.nil_append, List.append_nil, List.getElem?_cons_zero, List.getElem?_cons_succ, List.getElem?_nil, List.replicate, List.set_cons_succ, List.set_cons_zero, Nat.reduceAdd, Nat.reduceSub, Nat.reduceLeDiff, run_eqi, run_nei, run_lt, run_le, run_gt, run_ge, run_addi, run_iaddi, true_and, and_true, Bool.not_eq_true, Bool.not_true, Bool.not_false, if_true, if_false, Bool.false_eq_true, ite_true, ite_false, reduceIte, reduceCtorEq, decide_eq_true_eq, decide_eq_false_iff_not, Option.isSome_some, Option.isSome_none, Bool.true_bne, Bool.false_bne]
        exact ⟨_, (by repeat (first | exact Le.nil | apply Le.keep | apply Le.drop)), P, _, _, rfl, rfl, g.none h⟩
      · simp only [isn_eK, dSeq, dIfS, dTest, dOp, dName, dC, dRet, dLstF, dCons, dNil, dTup, dNext, dAsg, dLstM, gdName, dDrop, dM, dM0, dIf, dAnd, dOr, dNot, dAndV, dOrV, dNotV, dChain, dFz, dRetF, dRetN, dBreak, dCont, dCB, gdTup, gdCons, gdNil, gdSub, dNeg, dAug, dAugS, dFrz, dPar, dNoPart, dPart, dSlice, dYes, wipeD, i2, d1, d2, d3, startD, List.map_cons, List.map_nil, List.length_cons, List.length_nil, List.cons_append, List.nil_append, List.append_nil, List.getElem?_cons_zero, List.getElem?_cons_succ, List.getElem?_nil, List.replicate, List.set_cons_succ, List.set_cons_zero, Nat.reduceAdd, Nat.reduceSub, Nat.reduceLeDiff, run_eqi, run_nei, run_lt, run_le, run_gt, run_ge, run_addi, run_iaddi, true_and, and_true, Bool.not_eq_true, Bool.not_true, Bool.not_false, if_true, if_false, Bool.false_eq_true, ite_true, ite_false, reduceIte, reduceCtorEq, decide_eq_true_eq, decide_eq_false_iff_not, Option.isSome_some, Option.isSome_none, Bool.true_bne, Bool.false_bne]
        exact ⟨_, (by repeat (first | exact Le.nil | apply Le.keep | apply Le.drop)), F, _, _, rfl, rfl, g.some au⟩
    · rintro η G' ⟨P, on, lt, rfl, rfl, g⟩
      have g : Gr N P N.length := by
        rw [List.length_map, len_range] at g
        rw [show (((N.length : Int) - 0).toNat : Int) = N.length by omega] at g
        exact g
      have gp := g.perm (srtT_perm e2 P)
      have hP := gp.mt.len
      simp only [dDc, diSeq, dSeq, dIfS, dTest, dOp, dName, dC, dRet, dLstF, dCons, dNil, dTup, dNext, dAsg, dLstM, gdName, dDrop, dM, dM0, dIf, dAnd, dOr, dNot, dAndV, dOrV, dNotV, dChain, dFz, dRetF, dRetN, dBreak, dCont, dCB, gdTup, gdCons, gdNil, gdSub, dNeg, dAug, dAugS, dFrz, dPar, dNoPart, dPart, dSlice, dYes, wipeD, i2, d1, d2, d3, startD, List.map_cons, List.map_nil, List.length_cons, List.length_nil, List.cons_append, List.nil_append, List.append_nil, List.getElem?_cons_zero, List.getElem?_cons_succ, List.getElem?_nil, List.replicate, List.set_cons_succ, List.set_cons_zero, Nat.reduceAdd, Nat.reduceSub, Nat.reduceLeDiff, run_eqi, run_nei, run_lt, run_le, run_gt, run_ge, run_addi, run_iaddi, true_and, and_true, Bool.not_eq_true, Bool.not_true, Bool.not_false, if_true, if_false, Bool.false_eq_true, ite_true, ite_false, reduceIte, reduceCtorEq, decide_eq_true_eq, decide_eq_false_iff_not, Option.isSome_some, Option.isSome_none, Bool.true_bne, Bool.false_bne]
      refine run_sortI (fun R r => r) fun w hw => ?_
      simp only [up_same, dl_up hw, dSeq, dIfS, dTest, dOp, dName, dC, dRet, dLstF, dCons, dNil, dTup, dNext, dAsg, dLstM, gdName, dDrop, dM, dM0, dIf, dAnd, dOr, dNot, dAndV, dOrV, dNotV, dChain, dFz, dRetF, dRetN, dBreak, dCont, dCB, gdTup, gdCons, gdNil, gdSub, dNeg, dAug, dAugS, dFrz, dPar, dNoPart, dPart, dSlice, dYes, wipeD, i2, d1, d2, d3, startD, List.map_cons, List.map_nil, List.length_cons, List.length_nil, List.cons_append, List.nil_append, List.append_nil, List.getElem?_cons_zero, List.getElem?_cons_succ, List.getElem?_nil, List.replicate, List.set_cons_succ, List.set_cons_zero, Nat.reduceAdd, Nat.reduceSub, Nat.reduceLeDiff, run_eqi, run_nei, run_lt, run_le, run_gt, run_ge, run_addi, run_iaddi, true_and, and_true, Bool.not_eq_true, Bool.not_true, Bool.not_false, if_true, if_false, Bool.false_eq_true, ite_true, ite_false, reduceIte, reduceCtorEq, decide_eq_true_eq, decide_eq_false_iff_not, Option.isSome_some, Option.isSome_none, Bool.true_bne, Bool.false_bne]
      show ∀ b, _ → _
      intro b hb
      refine ⟨fun i G2 => G2 = up G' b (oK .int (sw ((srtT e2 P).take i))), rfl, ?_, ?_, ?_⟩
      · rintro i G' rfl
        exact ⟨trivial, no_lstK up_same⟩
      · rintro i d G' hd rfl
        obtain ⟨x, hx, rfl⟩ := get_map hd
        simp only [e2, dSeq, dIfS, dTest, dOp, dName, dC, dRet, dLstF, dCons, dNil, dTup, dNext, dAsg, dLstM, gdName, dDrop, dM, dM0, dIf, dAnd, dOr, dNot, dAndV, dOrV, dNotV, dChain, dFz, dRetF, dRetN, dBreak, dCont, dCB, gdTup, gdCons, gdNil, gdSub, dNeg, dAug, dAugS, dFrz, dPar, dNoPart, dPart, dSlice, dYes, wipeD, i2, d1, d2, d3, startD, List.map_cons, List.map_nil, List.length_cons, List.length_nil, List.cons_append, List.nil_append, List.append_nil, List.getElem?_cons_zero, List.getElem?_cons_succ, List.getElem?_nil, List.replicate, List.set_cons_succ, List.set_cons_zero, Nat.reduceAdd, Nat.reduceSub, Nat.reduceLeDiff, run_eqi, run_nei, run_lt, run_le, run_gt, run_ge, run_addi, run_iaddi, true_and, and_true, Bool.not_eq_true, Bool.not_true, Bool.not_false, if_true, if_false, Bool.false_eq_true, ite_true, ite_false, reduceIte, reduceCtorEq, decide_eq_true_eq, decide_eq_false_iff_not, Option.isSome_some, Option.isSome_none, Bool.true_bne, Bool.false_bne]
        refine ⟨no_lstK up_same, run_setK (kvs := sw ((srtT e2 P).take i)) (f := D.int) up_same (small_line (by unfold sw; rw [List.length_map, List.length_take]; omega)) ?_⟩
        rw [up_up, aput_new (sw_fresh gp.mt hx), take_sn hx]
        unfold sw
        rw [List.map_append]
        rfl
      · rintro G' rfl
        rw [List.length_map, List.take_length]
        simp only [up_same, tree_oK, dl_up hb, dSeq, dIfS, dTest, dOp, dName, dC, dRet, dLstF, dCons, dNil, dTup, dNext, dAsg, dLstM, gdName, dDrop, dM, dM0, dIf, dAnd, dOr, dNot, dAndV, dOrV, dNotV, dChain, dFz, dRetF, dRetN, dBreak, dCont, dCB, gdTup, gdCons, gdNil, gdSub, dNeg, dAug, dAugS, dFrz, dPar, dNoPart, dPart, dSlice, dYes, wipeD, i2, d1, d2, d3, startD, List.map_cons, List.map_nil, List.length_cons, List.length_nil, List.cons_append, List.nil_append, List.append_nil, List.getElem?_cons_zero, List.getElem?_cons_succ, List.getElem?_nil, List.replicate, List.set_cons_succ, List.set_cons_zero, Nat.reduceAdd, Nat.reduceSub, Nat.reduceLeDiff, run_eqi, run_nei, run_lt, run_le, run_gt, run_ge, run_addi, run_iaddi, true_and, and_true, Bool.not_eq_true, Bool.not_true, Bool.not_false, if_true, if_false, Bool.false_eq_true, ite_true, ite_false, reduceIte, reduceCtorEq, decide_eq_true_eq, decide_eq_false_iff_not, Option.isSome_some, Option.isSome_none, Bool.true_bne, Bool.false_bne]
        exact q _ gp
end M
namespace M
open PySem PySem.Spec PyProof.Rows L2 DL

/-! ### short_lot -/
structure Sw (N : List (List Int)) (P : List (Int × Int)) (K L : List Int) : Prop where
  nd : K.Nodup
  un : ∀ s ∈ K, Un N P s
  all : ∀ u, InR N u → ¬ Has P u → u ∈ K
  sub : ∀ s ∈ L, s ∈ K
  done : ∀ s ∈ K, s ∈ L ∨ ∀ a ∈ nxt N s, ∃ m, m ∈ K ∧ aget P a = some m
structure Sf (N : List (List Int)) (P : List (Int × Int)) (K L : List Int) (now : Int) (i : Nat) : Prop where
  nd : K.Nodup
  un : ∀ s ∈ K, Un N P s
  all : ∀ u, InR N u → ¬ Has P u → u ∈ K
  sub : ∀ s ∈ L, s ∈ K
  cur : now ∈ K
  done : ∀ s ∈ K, s ∈ L ∨ (∀ a ∈ nxt N s, ∃ m, m ∈ K ∧ aget P a = some m) ∨ (s = now ∧ ∀ a ∈ (nxt N now).take i, ∃ m, m ∈ K ∧ aget P a = some m)
section
variable {N : List (List Int)} {P : List (Int × Int)} {K L : List Int} {now : Int} {i : Nat}
theorem un_inR {s : Int} (h : Un N P s) : InR N s := (un_closed N P s h).1
theorem un_len (nd : K.Nodup) (h : ∀ s ∈ K, Un N P s) : K.length ≤ N.length := by
  have := inj_len (L' := K) (L := List.map (fun k : Nat => (k : Int)) (List.range N.length)) (R := fun x y => x = y) nd (fun x hx => by
    obtain ⟨h0, h1⟩ := un_inR (h x hx)
    exact ⟨x, List.mem_map.mpr ⟨x.toNat, by rw [List.mem_range]; omega, by omega⟩, rfl⟩) fun x _ x' _ y e e' => e.trans e'.symm
  simpa using this
theorem Sw.pop (b : Sw N P K (L ++ [now])) : Sf N P K L now 0 where
  nd := b.nd
  un := b.un
  all := b.all
  sub := fun s h => b.sub s (List.mem_append.mpr (.inl h))
  cur := b.sub now (by simp)
  done := fun s r => by
    rcases b.done s r with h | h
    · rcases List.mem_append.mp h with h | h
      · exact .inl h
      · have : s = now := by simpa using h
        exact .inr (.inr ⟨this, fun a ha => by simp at ha⟩)
    · exact .inr (.inl h)
theorem Sf.end_ (b : Sf N P K L now (nxt N now).length) : Sw N P K L where
  nd := b.nd
  un := b.un
  all := b.all
  sub := b.sub
  done := fun s r => by
    rcases b.done s r with h | h | ⟨rfl, h⟩
    · exact .inl h
    · exact .inr h
    · exact .inr fun a ha => h a (by rw [List.take_length]; exact ha)
theorem Sf.next (b : Sf N P K L now i) {a : Int} (e : (nxt N now)[i]? = some a) : ∃ m, aget P a = some m ∧ Un N P m :=
  (un_closed N P now (b.un now b.cur)).2 a (List.mem_of_getElem? e)
theorem Sf.skip (b : Sf N P K L now i) {a m : Int} (e : (nxt N now)[i]? = some a) (hm : aget P a = some m) (hk : m ∈ K) : Sf N P K L now (i + 1) where
  nd := b.nd
  un := b.un
  all := b.all
  sub := b.sub
  cur := b.cur
  done := fun s r => by
    rcases b.done s r with q | q | ⟨q, z⟩
    · exact .inl q
    · exact .inr (.inl q)
    · refine .inr (.inr ⟨q, fun c hc => ?_⟩)
      rcases take_mem e hc with hc | rfl
      · exact z c hc
      · exact ⟨m, hk, hm⟩
theorem Sf.push (b : Sf N P K L now i) {a m : Int} (e : (nxt N now)[i]? = some a) (hm : aget P a = some m) (hk : m ∉ K) : Sf N P (K ++ [m]) (L ++ [m]) now (i + 1) where
  nd := by
    rw [List.nodup_append]
    exact ⟨b.nd, by simp, fun x hx y hy => by simp at hy; subst hy; exact fun z => hk (z ▸ hx)⟩
  un := fun s hs => by
    rcases List.mem_append.mp hs with hs | hs
    · exact b.un s hs
    · obtain ⟨m', h1, h2⟩ := b.next e
      rw [hm] at h1
      cases h1
      have : s = m := by simpa using hs
      rw [this]; exact h2
  all := fun u h1 h2 => List.mem_append.mpr (.inl (b.all u h1 h2))
  sub := fun s hs => by
    rcases List.mem_append.mp hs with hs | hs
    · exact List.mem_append.mpr (.inl (b.sub s hs))
    · exact List.mem_append.mpr (.inr hs)
  cur := List.mem_append.mpr (.inl b.cur)
  done := fun s hs => by
    have wk : ∀ c, (∃ m', m' ∈ K ∧ aget P c = some m') → ∃ m', m' ∈ K ++ [m] ∧ aget P c = some m' := fun c ⟨m', h1, h2⟩ => ⟨m', List.mem_append.mpr (.inl h1), h2⟩
    rcases List.mem_append.mp hs with hs | hs
    · rcases b.done s hs with q | q | ⟨q, z⟩
      · exact .inl (List.mem_append.mpr (.inl q))
      · exact .inr (.inl fun c hc => wk c (q c hc))
      · refine .inr (.inr ⟨q, fun c hc => ?_⟩)
        rcases take_mem e hc with hc | rfl
        · exact wk c (z c hc)
        · exact ⟨m, by simp, hm⟩
    · exact .inl (List.mem_append.mpr (.inr hs))
end
/-- keys that say true -/
def fz (K : List Int) : List (Int × Bool) := K.map fun s => (s, true)
theorem fz_keys (K : List Int) : (fz K).map (·.1) = K := by
  unfold fz
  rw [List.map_map]
  exact List.map_id _
theorem fz_put {K : List Int} {s : Int} (h : s ∉ K) : aput (fz K) s true = fz (K ++ [s]) := by
  rw [aput_new (by rw [fz_keys]; exact h)]
  unfold fz
  rw [List.map_append]
  rfl
theorem fz_get (K : List Int) (s : Int) : (aget (fz K) s).isSome = decide (s ∈ K) := by
  rw [Bool.eq_iff_iff, aget_mem, fz_keys, decide_eq_true_eq]
def sp_short_lot : DRn := d2 fun n m G Q => ∃ (N : List (List Int)) (P : List (Int × Int)), n = eN N ∧ m = eK .int (sw P) ∧ N.length ≤ 1000 ∧ Gr N P N.length ∧
  ∀ K : List Int, Sw N P K [] → Q (eL .int (srtT .int K)) G
abbrev N_short_lot : List Str := ["nexts", "matching", "back", "found", "waiting", "other", "one"]
def T_short_lot : DTS :=
    (dSeq (dAsg (dDc (.dK []) (diItems (dName 1)) (gdTup (gdCons (gdName 6) (gdCons (gdName 5) gdNil)) 2) dYes (dName 5) (dName 6) [6, 5]) (gdName 2))
    (dFrz 2 (dSeq (dAsg (dDc (.dK []) (diRange1 (dCons (dCB dLen (dCons (dName 0) dNil)) dNil)) (gdName 6) (dTest (dOp (dIn true) (dName 6) (dName 1))) (dName 6) (dC (.bl true)) [6]) (gdName 3))
    (dSeq (dAsg (dCB dListD (dCons (dName 3) dNil)) (gdName 4))
    (dSeq (dWhile (dTest (dOp dNe (dName 4) (dLstF dNil)))
    (dFor (diSeq (dOp dIx (dName 0) (dM0 "list" dPop (dName 4)))) (gdName 5)
    (dSeq (dAsg (dOp dIx (dName 2) (dName 5)) (gdName 6))
    (dIfS (dTest (dOp (dIn true) (dName 6) (dName 3)))
    (dSeq (dAsg (dC (.bl true)) (gdSub (dName 3) (dName 6) dSet))
    (dDrop (dM "list" dAppend (dName 4) (dCons (dName 6) dNil))))
    dNext))))
    (dFrz 4 (dFrz 3 (dRet (dFz (dCB dSortedD (dCons (dName 3) dNil)))))))))))
theorem len_short_lot : ∀ ds G Q, sp_short_lot ds G Q → ds.length = 2 := fun ds G Q h => by
  match ds, h with
  | [_, _], _ => rfl
theorem sw_len (P : List (Int × Int)) : (sw P).length = P.length := List.length_map ..
theorem key_fresh {P : List (Int × Int)} (nd : (P.map (·.1)).Nodup) {i : Nat} {x : Int × Int} (e : P[i]? = some x) : x.1 ∉ (P.take i).map (·.1) := by
  intro q
  obtain ⟨y, hy, e2⟩ := List.mem_map.mp q
  obtain ⟨j, hj, e5⟩ := List.getElem_of_mem hy
  rw [List.getElem_take] at e5
  obtain ⟨hi, e6⟩ := List.getElem?_eq_some_iff.mp e
  rw [List.length_take] at hj
  have := (List.pairwise_iff_getElem.mp nd) j i (by rw [List.length_map]; omega) (by rw [List.length_map]; exact hi) (by omega)
  rw [List.getElem_map, List.getElem_map, e5, e6] at this
  exact this e2
theorem run_sortIK {d : D} {K : List Int} {G : DHp} {Q : DVK} (h : keysD d G = some (K.map .int)) (q : ∀ p, G p = none → Q (.ref p) (up G p (.lst ((srtT .int K).map .int)))) : dSortedD [d] G Q := by
  show (match keysD d G with | some ks => _ | none => False)
  rw [h]
  refine ⟨⟨?_, ?_, fun d hd => ?_⟩, fun p hp => by rw [srt_map]; exact q p hp⟩
  · rw [List.map_map]; exact PySem.W.AllAlike.of fun a b => by simp [py, PySem.W.alike]
  · rw [List.map_map]; exact PySem.W.Sortable.others fun b => ⟨by simp [py], by simp [py]⟩
  · obtain ⟨a, _, rfl⟩ := List.mem_map.mp hd; rw [depth_int]; decide
theorem run_listD {d : D} {ks : List D} {G : DHp} {Q : DVK} (h : keysD d G = some ks) (q : ∀ p, G p = none → Q (.ref p) (up G p (.lst ks))) : dListD [d] G Q := by
  show (match keysD d G with | some ks => _ | none => False)
  rw [h]
  exact q
theorem nd_take {α : Type} {l : List α} (nd : l.Nodup) {i : Nat} {x : α} (e : l[i]? = some x) : x ∉ l.take i := by
  intro hy
  obtain ⟨j, hj, e5⟩ := List.getElem_of_mem hy
  rw [List.getElem_take] at e5
  obtain ⟨hi, e6⟩ := List.getElem?_eq_some_iff.mp e
  rw [List.length_take] at hj
  have := (List.pairwise_iff_getElem.mp nd) j i (by omega) hi (by omega)
  exact this (e5.trans e6.symm)
theorem run_short_lot : ∀ ds G Q, sp_short_lot ds G Q → T_short_lot { nx := fun _ G' => Q .non G', rt := Q } (startD N_short_lot ds) G := fun ds G Q h => by
  match ds, h with
  | [_, _], ⟨N, P, rfl, rfl, hN, g, q⟩ =>
    have hP := g.mt.len
    simp only [T_short_lot, N_short_lot, dDc, diItems, dicP_eK, dSeq, dIfS, dTest, dOp, dName, dC, dRet, dLstF, dCons, dNil, dTup, dNext, dAsg, dLstM, gdName, dDrop, dM, dM0, dIf, dAnd, dOr, dNot, dAndV, dOrV, dNotV, dChain, dFz, dRetF, dRetN, dBreak, dCont, dCB, gdTup, gdCons, gdNil, gdSub, dNeg, dAug, dAugS, dFrz, dPar, dNoPart, dPart, dSlice, dYes, wipeD, i2, d1, d2, d3, startD, List.map_cons, List.map_nil, List.length_cons, List.length_nil, List.cons_append, List.nil_append, List.append_nil, List.getElem?_cons_zero, List.getElem?_cons_succ, List.getElem?_nil, List.replicate, List.set_cons_succ, List.set_cons_zero, Nat.reduceAdd, Nat.reduceSub, Nat.reduceLeDiff, run_eqi, run_nei, run_lt, run_le, run_gt, run_ge, run_addi, run_iaddi, true_and, and_true, Bool.not_eq_true, Bool.not_true, Bool.not_false, if_true, if_false, Bool.false_eq_true, ite_true, ite_false, reduceIte, reduceCtorEq, decide_eq_true_eq, decide_eq_false_iff_not, Option.isSome_some, Option.isSome_none, Bool.true_bne, Bool.false_bne]
    intro b hb
    refine ⟨fun i G' => G' = up G b (oK .int (P.take i)), rfl, ?_, ?_, ?_⟩
    · rintro i G' rfl
      exact ⟨trivial, no_lstK up_same⟩
    · rintro i d G' hd rfl
      unfold sw at hd
      rw [List.map_map, List.map_map] at hd
      obtain ⟨x, hx, rfl⟩ := get_map hd
      dsimp only [Function.comp]
      simp only [dSeq, dIfS, dTest, dOp, dName, dC, dRet, dLstF, dCons, dNil, dTup, dNext, dAsg, dLstM, gdName, dDrop, dM, dM0, dIf, dAnd, dOr, dNot, dAndV, dOrV, dNotV, dChain, dFz, dRetF, dRetN, dBreak, dCont, dCB, gdTup, gdCons, gdNil, gdSub, dNeg, dAug, dAugS, dFrz, dPar, dNoPart, dPart, dSlice, dYes, wipeD, i2, d1, d2, d3, startD, List.map_cons, List.map_nil, List.length_cons, List.length_nil, List.cons_append, List.nil_append, List.append_nil, List.getElem?_cons_zero, List.getElem?_cons_succ, List.getElem?_nil, List.replicate, List.set_cons_succ, List.set_cons_zero, Nat.reduceAdd, Nat.reduceSub, Nat.reduceLeDiff, run_eqi, run_nei, run_lt, run_le, run_gt, run_ge, run_addi, run_iaddi, true_and, and_true, Bool.not_eq_true, Bool.not_true, Bool.not_false, if_true, if_false, Bool.false_eq_true, ite_true, ite_false, reduceIte, reduceCtorEq, decide_eq_true_eq, decide_eq_false_iff_not, Option.isSome_some, Option.isSome_none, Bool.true_bne, Bool.false_bne]
      refine ⟨no_lstK up_same, run_setK (kvs := P.take i) (f := D.int) up_same (small_line (by rw [List.length_take]; omega)) ?_⟩
      rw [up_up, aput_new (key_fresh g.mt.nd hx), take_sn hx]
    · rintro G' rfl
      rw [List.length_map, List.length_map, sw_len, List.take_length]
      simp only [up_same, tree_oK, dl_up hb, diRange1, run_len_eL, dSeq, dIfS, dTest, dOp, dName, dC, dRet, dLstF, dCons, dNil, dTup, dNext, dAsg, dLstM, gdName, dDrop, dM, dM0, dIf, dAnd, dOr, dNot, dAndV, dOrV, dNotV, dChain, dFz, dRetF, dRetN, dBreak, dCont, dCB, gdTup, gdCons, gdNil, gdSub, dNeg, dAug, dAugS, dFrz, dPar, dNoPart, dPart, dSlice, dYes, wipeD, i2, d1, d2, d3, startD, List.map_cons, List.map_nil, List.length_cons, List.length_nil, List.cons_append, List.nil_append, List.append_nil, List.getElem?_cons_zero, List.getElem?_cons_succ, List.getElem?_nil, List.replicate, List.set_cons_succ, List.set_cons_zero, Nat.reduceAdd, Nat.reduceSub, Nat.reduceLeDiff, run_eqi, run_nei, run_lt, run_le, run_gt, run_ge, run_addi, run_iaddi, true_and, and_true, Bool.not_eq_true, Bool.not_true, Bool.not_false, if_true, if_false, Bool.false_eq_true, ite_true, ite_false, reduceIte, reduceCtorEq, decide_eq_true_eq, decide_eq_false_iff_not, Option.isSome_some, Option.isSome_none, Bool.true_bne, Bool.false_bne]
      refine ⟨⟨by omega, by omega⟩, fun f hf => ?_⟩
      refine ⟨fun i G' => G' = up G f (oK .bl (fz (((rangeL 0 N.length).take i).filter fun s => (aget (sw P) s).isNone))), rfl, ?_, ?_, ?_⟩
      · rintro i G' rfl
        exact ⟨trivial, no_lstK up_same⟩
      · rintro i d G' hd rfl
        obtain ⟨s, hs, rfl⟩ := get_map hd
        simp only [dSeq, dIfS, dTest, dOp, dName, dC, dRet, dLstF, dCons, dNil, dTup, dNext, dAsg, dLstM, gdName, dDrop, dM, dM0, dIf, dAnd, dOr, dNot, dAndV, dOrV, dNotV, dChain, dFz, dRetF, dRetN, dBreak, dCont, dCB, gdTup, gdCons, gdNil, gdSub, dNeg, dAug, dAugS, dFrz, dPar, dNoPart, dPart, dSlice, dYes, wipeD, i2, d1, d2, d3, startD, List.map_cons, List.map_nil, List.length_cons, List.length_nil, List.cons_append, List.nil_append, List.append_nil, List.getElem?_cons_zero, List.getElem?_cons_succ, List.getElem?_nil, List.replicate, List.set_cons_succ, List.set_cons_zero, Nat.reduceAdd, Nat.reduceSub, Nat.reduceLeDiff, run_eqi, run_nei, run_lt, run_le, run_gt, run_ge, run_addi, run_iaddi, true_and, and_true, Bool.not_eq_true, Bool.not_true, Bool.not_false, if_true, if_false, Bool.false_eq_true, ite_true, ite_false, reduceIte, reduceCtorEq, decide_eq_true_eq, decide_eq_false_iff_not, Option.isSome_some, Option.isSome_none, Bool.true_bne, Bool.false_bne]
        refine run_inK (f := D.int) (dicK_eK _ _ _) ?_
        cases hg : aget (sw P) s with
        | some z =>
          simp only [dSeq, dIfS, dTest, dOp, dName, dC, dRet, dLstF, dCons, dNil, dTup, dNext, dAsg, dLstM, gdName, dDrop, dM, dM0, dIf, dAnd, dOr, dNot, dAndV, dOrV, dNotV, dChain, dFz, dRetF, dRetN, dBreak, dCont, dCB, gdTup, gdCons, gdNil, gdSub, dNeg, dAug, dAugS, dFrz, dPar, dNoPart, dPart, dSlice, dYes, wipeD, i2, d1, d2, d3, startD, List.map_cons, List.map_nil, List.length_cons, List.length_nil, List.cons_append, List.nil_append, List.append_nil, List.getElem?_cons_zero, List.getElem?_cons_succ, List.getElem?_nil, List.replicate, List.set_cons_succ, List.set_cons_zero, Nat.reduceAdd, Nat.reduceSub, Nat.reduceLeDiff, run_eqi, run_nei, run_lt, run_le, run_gt, run_ge, run_addi, run_iaddi, true_and, and_true, Bool.not_eq_true, Bool.not_true, Bool.not_false, if_true, if_false, Bool.false_eq_true, ite_true, ite_false, reduceIte, reduceCtorEq, decide_eq_true_eq, decide_eq_false_iff_not, Option.isSome_some, Option.isSome_none, Bool.true_bne, Bool.false_bne]
          rw [take_sn hs, List.filter_append, List.filter_cons_of_neg (by rw [hg]; simp), List.filter_nil, List.append_nil]
        | none =>
          simp only [dSeq, dIfS, dTest, dOp, dName, dC, dRet, dLstF, dCons, dNil, dTup, dNext, dAsg, dLstM, gdName, dDrop, dM, dM0, dIf, dAnd, dOr, dNot, dAndV, dOrV, dNotV, dChain, dFz, dRetF, dRetN, dBreak, dCont, dCB, gdTup, gdCons, gdNil, gdSub, dNeg, dAug, dAugS, dFrz, dPar, dNoPart, dPart, dSlice, dYes, wipeD, i2, d1, d2, d3, startD, List.map_cons, List.map_nil, List.length_cons, List.length_nil, List.cons_append, List.nil_append, List.append_nil, List.getElem?_cons_zero, List.getElem?_cons_succ, List.getElem?_nil, List.replicate, List.set_cons_succ, List.set_cons_zero, Nat.reduceAdd, Nat.reduceSub, Nat.reduceLeDiff, run_eqi, run_nei, run_lt, run_le, run_gt, run_ge, run_addi, run_iaddi, true_and, and_true, Bool.not_eq_true, Bool.not_true, Bool.not_false, if_true, if_false, Bool.false_eq_true, ite_true, ite_false, reduceIte, reduceCtorEq, decide_eq_true_eq, decide_eq_false_iff_not, Option.isSome_some, Option.isSome_none, Bool.true_bne, Bool.false_bne]
          have hn : s ∉ ((rangeL 0 N.length).take i).filter fun s => (aget (sw P) s).isNone := fun z => nd_take (range_nodup _ _) hs (List.mem_filter.mp z).1
          refine ⟨no_lstK up_same, run_setK (kvs := fz (((rangeL 0 N.length).take i).filter fun s => (aget (sw P) s).isNone)) (f := D.bl) (b := true) up_same (small_line ?_) ?_⟩
          · unfold fz
            rw [List.length_map]
            refine Nat.le_trans (List.length_filter_le _ _) ?_
            rw [List.length_take, len_range]
            omega
          · rw [up_up, fz_put hn, take_sn hs, List.filter_append, List.filter_cons_of_pos (by rw [hg]; rfl), List.filter_nil]
      · rintro G' rfl
        rw [List.length_map, List.take_length]
        generalize hK0 : (rangeL 0 N.length).filter (fun s => (aget (sw P) s).isNone) = K0
        have m0 : ∀ s, s ∈ K0 ↔ InR N s ∧ ¬ Has P s := fun s => by
          rw [← hK0, List.mem_filter, mem_range, Option.isNone_iff_eq_none, sw_none g.mt]
          rfl
        have sw0 : Sw N P K0 K0 := ⟨by rw [← hK0]; exact (range_nodup _ _).filter _, fun s hs => g.un ((m0 s).mp hs).1 ((m0 s).mp hs).2, fun u h1 h2 => (m0 u).mpr ⟨h1, h2⟩, fun s h => h, fun s h => .inl h⟩
        refine run_listD (keysD_ref (f := D.bl) up_same) fun w hw => ?_
        have fw := cw_ne hw
        rw [fz_keys]
        have hl0 := un_len sw0.nd sw0.un
        refine ⟨fun m η G' => ∃ K L s5 s6, η = [some (eN N), some (eK .int (sw P)), some (eK .int P), some (.ref f), some (.ref w), s5, s6] ∧ G' = up (up G f (oK .bl (fz K))) w (.lst (L.map .int)) ∧ Sw N P K L ∧ m + 2 * K.length = L.length + 2 * N.length ∧ m ≤ 2 * N.length,
          ⟨2 * N.length - K0.length, K0, K0, none, none, rfl, rfl, sw0, by omega, by omega⟩, ?_⟩
        rintro m η G' ⟨K, L, s5, s6, rfl, rfl, sl, hm, hmb⟩
        have hKn := un_len sl.nd sl.un
        have hw' : up G f (oK .bl (fz K)) w = none := by rw [up_ne (Ne.symm fw)]; rw [up_ne (Ne.symm fw)] at hw; exact hw
        simp only [dSeq, dIfS, dTest, dOp, dName, dC, dRet, dLstF, dCons, dNil, dTup, dNext, dAsg, dLstM, gdName, dDrop, dM, dM0, dIf, dAnd, dOr, dNot, dAndV, dOrV, dNotV, dChain, dFz, dRetF, dRetN, dBreak, dCont, dCB, gdTup, gdCons, gdNil, gdSub, dNeg, dAug, dAugS, dFrz, dPar, dNoPart, dPart, dSlice, dYes, wipeD, i2, d1, d2, d3, startD, List.map_cons, List.map_nil, List.length_cons, List.length_nil, List.cons_append, List.nil_append, List.append_nil, List.getElem?_cons_zero, List.getElem?_cons_succ, List.getElem?_nil, List.replicate, List.set_cons_succ, List.set_cons_zero, Nat.reduceAdd, Nat.reduceSub, Nat.reduceLeDiff, run_eqi, run_nei, run_lt, run_le, run_gt, run_ge, run_addi, run_iaddi, true_and, and_true, Bool.not_eq_true, Bool.not_true, Bool.not_false, if_true, if_false, Bool.false_eq_true, ite_true, ite_false, reduceIte, reduceCtorEq, decide_eq_true_eq, decide_eq_false_iff_not, Option.isSome_some, Option.isSome_none, Bool.true_bne, Bool.false_bne]
        refine run_neI up_same ?_
        rcases List.eq_nil_or_concat L with rfl | ⟨L1, now, eL1⟩
        · simp only [List.isEmpty_nil, up_same, dl_up hw', dl_up hf, dSeq, dIfS, dTest, dOp, dName, dC, dRet, dLstF, dCons, dNil, dTup, dNext, dAsg, dLstM, gdName, dDrop, dM, dM0, dIf, dAnd, dOr, dNot, dAndV, dOrV, dNotV, dChain, dFz, dRetF, dRetN, dBreak, dCont, dCB, gdTup, gdCons, gdNil, gdSub, dNeg, dAug, dAugS, dFrz, dPar, dNoPart, dPart, dSlice, dYes, wipeD, i2, d1, d2, d3, startD, List.map_cons, List.map_nil, List.length_cons, List.length_nil, List.cons_append, List.nil_append, List.append_nil, List.getElem?_cons_zero, List.getElem?_cons_succ, List.getElem?_nil, List.replicate, List.set_cons_succ, List.set_cons_zero, Nat.reduceAdd, Nat.reduceSub, Nat.reduceLeDiff, run_eqi, run_nei, run_lt, run_le, run_gt, run_ge, run_addi, run_iaddi, true_and, and_true, Bool.not_eq_true, Bool.not_true, Bool.not_false, if_true, if_false, Bool.false_eq_true, ite_true, ite_false, reduceIte, reduceCtorEq, decide_eq_true_eq, decide_eq_false_iff_not, Option.isSome_some, Option.isSome_none, Bool.true_bne, Bool.false_bne]
          refine run_sortIK (K := K) (by rw [show DO.tree (oK D.bl (fz K)) = eK .bl (fz K) from rfl, keysD_eK, fz_keys]) fun p hp => ?_
          simp only [up_same, dl_up hp, dSeq, dIfS, dTest, dOp, dName, dC, dRet, dLstF, dCons, dNil, dTup, dNext, dAsg, dLstM, gdName, dDrop, dM, dM0, dIf, dAnd, dOr, dNot, dAndV, dOrV, dNotV, dChain, dFz, dRetF, dRetN, dBreak, dCont, dCB, gdTup, gdCons, gdNil, gdSub, dNeg, dAug, dAugS, dFrz, dPar, dNoPart, dPart, dSlice, dYes, wipeD, i2, d1, d2, d3, startD, List.map_cons, List.map_nil, List.length_cons, List.length_nil, List.cons_append, List.nil_append, List.append_nil, List.getElem?_cons_zero, List.getElem?_cons_succ, List.getElem?_nil, List.replicate, List.set_cons_succ, List.set_cons_zero, Nat.reduceAdd, Nat.reduceSub, Nat.reduceLeDiff, run_eqi, run_nei, run_lt, run_le, run_gt, run_ge, run_addi, run_iaddi, true_and, and_true, Bool.not_eq_true, Bool.not_true, Bool.not_false, if_true, if_false, Bool.false_eq_true, ite_true, ite_false, reduceIte, reduceCtorEq, decide_eq_true_eq, decide_eq_false_iff_not, Option.isSome_some, Option.isSome_none, Bool.true_bne, Bool.false_bne]
          exact q K sl
        · rw [List.concat_eq_append] at eL1
          subst eL1
          have hne : (L1 ++ [now]).isEmpty = false := by cases L1 <;> rfl
          have hpp : up (up G f (oK .bl (fz K))) w (.lst ((L1 ++ [now]).map .int)) w = some (.lst (L1.map .int ++ [.int now])) := by rw [up_same, List.map_append]; rfl
          simp only [hne, dFor, diSeq, dSeq, dIfS, dTest, dOp, dName, dC, dRet, dLstF, dCons, dNil, dTup, dNext, dAsg, dLstM, gdName, dDrop, dM, dM0, dIf, dAnd, dOr, dNot, dAndV, dOrV, dNotV, dChain, dFz, dRetF, dRetN, dBreak, dCont, dCB, gdTup, gdCons, gdNil, gdSub, dNeg, dAug, dAugS, dFrz, dPar, dNoPart, dPart, dSlice, dYes, wipeD, i2, d1, d2, d3, startD, List.map_cons, List.map_nil, List.length_cons, List.length_nil, List.cons_append, List.nil_append, List.append_nil, List.getElem?_cons_zero, List.getElem?_cons_succ, List.getElem?_nil, List.replicate, List.set_cons_succ, List.set_cons_zero, Nat.reduceAdd, Nat.reduceSub, Nat.reduceLeDiff, run_eqi, run_nei, run_lt, run_le, run_gt, run_ge, run_addi, run_iaddi, true_and, and_true, Bool.not_eq_true, Bool.not_true, Bool.not_false, if_true, if_false, Bool.false_eq_true, ite_true, ite_false, reduceIte, reduceCtorEq, decide_eq_true_eq, decide_eq_false_iff_not, Option.isSome_some, Option.isSome_none, Bool.true_bne, Bool.false_bne]
          refine run_popE hpp ?_
          have hn : InR N now := un_inR (sl.un now (sl.sub now (by simp)))
          refine run_ixL (f := eL .int) hn.1 (nxt_at hn) ?_
          unfold eL
          dsimp only
          rw [up_up]
          refine ⟨fun i η G' => ∃ K L s5 s6, η = [some (eN N), some (eK .int (sw P)), some (eK .int P), some (.ref f), some (.ref w), s5, s6] ∧ G' = up (up G f (oK .bl (fz K))) w (.lst (L.map .int)) ∧ Sf N P K L now i ∧ L.length + 2 * N.length + 1 ≤ m + 2 * K.length,
            ⟨K, L1, _, _, rfl, rfl, sl.pop, by rw [List.length_append, List.length_singleton] at hm; omega⟩, fun _ _ _ _ => trivial, ?_, ?_⟩
          · rintro i d η G' hd ⟨K, L, s5, s6, rfl, rfl, sf, hm2⟩
            obtain ⟨a, ha, rfl⟩ := get_map hd
            have hKn2 := un_len sf.nd sf.un
            have hff : up (up G f (oK .bl (fz K))) w (.lst (L.map .int)) f = some (oK .bl (fz K)) := by rw [up_ne fw, up_same]
            obtain ⟨z, hz, hU⟩ := sf.next ha
            simp only [dSeq, dIfS, dTest, dOp, dName, dC, dRet, dLstF, dCons, dNil, dTup, dNext, dAsg, dLstM, gdName, dDrop, dM, dM0, dIf, dAnd, dOr, dNot, dAndV, dOrV, dNotV, dChain, dFz, dRetF, dRetN, dBreak, dCont, dCB, gdTup, gdCons, gdNil, gdSub, dNeg, dAug, dAugS, dFrz, dPar, dNoPart, dPart, dSlice, dYes, wipeD, i2, d1, d2, d3, startD, List.map_cons, List.map_nil, List.length_cons, List.length_nil, List.cons_append, List.nil_append, List.append_nil, List.getElem?_cons_zero, List.getElem?_cons_succ, List.getElem?_nil, List.replicate, List.set_cons_succ, List.set_cons_zero, Nat.reduceAdd, Nat.reduceSub, Nat.reduceLeDiff, run_eqi, run_nei, run_lt, run_le, run_gt, run_ge, run_addi, run_iaddi, true_and, and_true, Bool.not_eq_true, Bool.not_true, Bool.not_false, if_true, if_false, Bool.false_eq_true, ite_true, ite_false, reduceIte, reduceCtorEq, decide_eq_true_eq, decide_eq_false_iff_not, Option.isSome_some, Option.isSome_none, Bool.true_bne, Bool.false_bne]
            refine run_ixK (f := D.int) (dicK_eK _ _ _) hz ?_
            refine run_inK (f := D.bl) (dicK_ref hff) ?_
            rw [fz_get]
            by_cases hk : z ∈ K
            · rw [decide_eq_true hk]
              simp only [dSeq, dIfS, dTest, dOp, dName, dC, dRet, dLstF, dCons, dNil, dTup, dNext, dAsg, dLstM, gdName, dDrop, dM, dM0, dIf, dAnd, dOr, dNot, dAndV, dOrV, dNotV, dChain, dFz, dRetF, dRetN, dBreak, dCont, dCB, gdTup, gdCons, gdNil, gdSub, dNeg, dAug, dAugS, dFrz, dPar, dNoPart, dPart, dSlice, dYes, wipeD, i2, d1, d2, d3, startD, List.map_cons, List.map_nil, List.length_cons, List.length_nil, List.cons_append, List.nil_append, List.append_nil, List.getElem?_cons_zero, List.getElem?_cons_succ, List.getElem?_nil, List.replicate, List.set_cons_succ, List.set_cons_zero, Nat.reduceAdd, Nat.reduceSub, Nat.reduceLeDiff, run_eqi, run_nei, run_lt, run_le, run_gt, run_ge, run_addi, run_iaddi, true_and, and_true, Bool.not_eq_true, Bool.not_true, Bool.not_false, if_true, if_false, Bool.false_eq_true, ite_true, ite_false, reduceIte, reduceCtorEq, decide_eq_true_eq, decide_eq_false_iff_not, Option.isSome_some, Option.isSome_none, Bool.true_bne, Bool.false_bne]
              exact ⟨_, (by repeat (first | exact Le.nil | apply Le.keep | apply Le.drop)), K, L, _, _, rfl, rfl, sf.skip ha hz hk, hm2⟩
            · rw [decide_eq_false hk]
              simp only [dSeq, dIfS, dTest, dOp, dName, dC, dRet, dLstF, dCons, dNil, dTup, dNext, dAsg, dLstM, gdName, dDrop, dM, dM0, dIf, dAnd, dOr, dNot, dAndV, dOrV, dNotV, dChain, dFz, dRetF, dRetN, dBreak, dCont, dCB, gdTup, gdCons, gdNil, gdSub, dNeg, dAug, dAugS, dFrz, dPar, dNoPart, dPart, dSlice, dYes, wipeD, i2, d1, d2, d3, startD, List.map_cons, List.map_nil, List.length_cons, List.length_nil, List.cons_append, List.nil_append, List.append_nil, List.getElem?_cons_zero, List.getElem?_cons_succ, List.getElem?_nil, List.replicate, List.set_cons_succ, List.set_cons_zero, Nat.reduceAdd, Nat.reduceSub, Nat.reduceLeDiff, run_eqi, run_nei, run_lt, run_le, run_gt, run_ge, run_addi, run_iaddi, true_and, and_true, Bool.not_eq_true, Bool.not_true, Bool.not_false, if_true, if_false, Bool.false_eq_true, ite_true, ite_false, reduceIte, reduceCtorEq, decide_eq_true_eq, decide_eq_false_iff_not, Option.isSome_some, Option.isSome_none, Bool.true_bne, Bool.false_bne]
              refine run_setK (f := D.bl) (kvs := fz K) (b := true) hff (small_line (by unfold fz; rw [List.length_map]; omega)) ?_
              rw [fz_put hk, up3 fw]
              have hLl : L.length < 1000000 := by omega
              refine run_app (xs := L.map .int) up_same (small_line (by rw [List.length_map]; exact Nat.le_of_lt hLl)) ?_
              rw [up_up]
              exact ⟨_, (by repeat (first | exact Le.nil | apply Le.keep | apply Le.drop)), K ++ [z], L ++ [z], _, _, rfl, by rw [List.map_append]; rfl, sf.push ha hz hk, by simp only [List.length_append, List.length_singleton]; omega⟩
          · rintro η G' ⟨K, L, s5, s6, rfl, rfl, sf, hm2⟩
            have hKn2 := un_len sf.nd sf.un
            rw [List.length_map] at sf
            exact ⟨L.length + 2 * N.length - 2 * K.length, by omega, _, (by repeat (first | exact Le.nil | apply Le.keep | apply Le.drop)), K, L, _, _, rfl, rfl, sf.end_, by omega, by omega⟩
end M
namespace M
open PySem PySem.Spec PyProof.Rows L2 DL

class CA where
  (Ground Camera Sky : Addr)
variable [CA]
abbrev isT : Value → Value → Option Bool := isTab []
theorem len3 {a b c : D} {G : DHp} {Q : DVK} : dLen [.nd .tup [a, b, c]] G Q = Q (.int 3) G := rfl
theorem len4 {a b c d : D} {G : DHp} {Q : DVK} : dLen [.nd .tup [a, b, c, d]] G Q = Q (.int 4) G := rfl
/-! ### is_whole, is_point, turned -/
def sp_is_whole : DRn := d3 fun t l h G Q => ∃ i a b : Int, t = .int i ∧ l = .int a ∧ h = .int b ∧ Q (.bl (decide (a ≤ i ∧ i ≤ b))) G
abbrev N_is_whole : List Str := ["thing", "low", "high"]
def T_is_whole : DTS :=
    (dRet (dAndV (dCB (dIsi isT) (dCons (dName 0) (dCons (dC (.ty "int")) dNil))) (dAndV (dNotV (dCB (dIsi isT) (dCons (dName 0) (dCons (dC (.ty "bool")) dNil)))) (dChain dLe dLe (dName 1) (dName 0) (dName 2)))))
theorem len_is_whole : ∀ ds G Q, sp_is_whole ds G Q → ds.length = 3 := fun ds G Q h => by
  match ds, h with
  | [_, _, _], _ => rfl
theorem run_is_whole : ∀ ds G Q, sp_is_whole ds G Q → T_is_whole { nx := fun _ G' => Q .non G', rt := Q } (startD N_is_whole ds) G := fun ds G Q h => by
  match ds, h with
  | [_, _, _], ⟨i, a, b, rfl, rfl, rfl, q⟩ =>
    simp only [T_is_whole, N_is_whole, isi_int_int, isi_int_bool, dSeq, dIfS, dTest, dOp, dName, dC, dRet, dLstF, dCons, dNil, dTup, dNext, dAsg, dLstM, gdName, dDrop, dM, dM0, dIf, dAnd, dOr, dNot, dAndV, dOrV, dNotV, dChain, dFz, dRetF, dRetN, dBreak, dCont, dCB, gdTup, gdCons, gdNil, gdSub, dNeg, dAug, dAugS, dFrz, dPar, dNoPart, dPart, dSlice, dYes, wipeD, i2, d1, d2, d3, startD, List.map_cons, List.map_nil, List.length_cons, List.length_nil, List.cons_append, List.nil_append, List.append_nil, List.getElem?_cons_zero, List.getElem?_cons_succ, List.getElem?_nil, List.replicate, List.set_cons_succ, List.set_cons_zero, Nat.reduceAdd, Nat.reduceSub, Nat.reduceLeDiff, run_eqi, run_nei, run_lt, run_le, run_gt, run_ge, run_addi, run_iaddi, true_and, and_true, Bool.not_eq_true, Bool.not_true, Bool.not_false, if_true, if_false, Bool.false_eq_true, ite_true, ite_false, reduceIte, reduceCtorEq, decide_eq_true_eq, decide_eq_false_iff_not, Option.isSome_some, Option.isSome_none, Bool.true_bne, Bool.false_bne]
    by_cases h1 : a ≤ i
    · rw [if_pos h1]
      simpa [h1] using q
    · rw [if_neg h1]
      simpa [h1] using q
def okPt (a b : Int) (p : Int × Int × Int) : Prop := (a ≤ p.1 ∧ p.1 ≤ b) ∧ (a ≤ p.2.1 ∧ p.2.1 ≤ b) ∧ 1 ≤ p.2.2 ∧ p.2.2 ≤ 99
instance (a b : Int) (p : Int × Int × Int) : Decidable (okPt a b p) := by unfold okPt; infer_instance
def sp_is_point : DRn := d3 fun t l h G Q => ∃ (p : Int × Int × Int) (a b : Int), t = e3 p ∧ l = .int a ∧ h = .int b ∧ Q (.bl (decide (okPt a b p))) G
abbrev N_is_point : List Str := ["thing", "low", "high"]
def T_is_point : DTS :=
    (dSeq (dIfS (dOr (dNot (dTest (dCB (dIsi isT) (dCons (dName 0) (dCons (dC (.ty "tuple")) dNil))))) (dTest (dOp dNe (dCB dLen (dCons (dName 0) dNil)) (dC (.int 3)))))
    (dRet (dC (.bl false)))
    dNext)
    (dRet (dAndV (dCB sp_is_whole (dCons (dOp dIx (dName 0) (dC (.int 0))) (dCons (dName 1) (dCons (dName 2) dNil)))) (dAndV (dCB sp_is_whole (dCons (dOp dIx (dName 0) (dC (.int 1))) (dCons (dName 1) (dCons (dName 2) dNil)))) (dCB sp_is_whole (dCons (dOp dIx (dName 0) (dC (.int 2))) (dCons (dC (.int 1)) (dCons (dC (.int 99)) dNil))))))))
theorem len_is_point : ∀ ds G Q, sp_is_point ds G Q → ds.length = 3 := fun ds G Q h => by
  match ds, h with
  | [_, _, _], _ => rfl
theorem run_is_point : ∀ ds G Q, sp_is_point ds G Q → T_is_point { nx := fun _ G' => Q .non G', rt := Q } (startD N_is_point ds) G := fun ds G Q h => by
  match ds, h with
  | [_, _, _], ⟨p, a, b, rfl, rfl, rfl, q⟩ =>
    simp only [T_is_point, N_is_point, e3, isi_tup_tup, dSeq, dIfS, dTest, dOp, dName, dC, dRet, dLstF, dCons, dNil, dTup, dNext, dAsg, dLstM, gdName, dDrop, dM, dM0, dIf, dAnd, dOr, dNot, dAndV, dOrV, dNotV, dChain, dFz, dRetF, dRetN, dBreak, dCont, dCB, gdTup, gdCons, gdNil, gdSub, dNeg, dAug, dAugS, dFrz, dPar, dNoPart, dPart, dSlice, dYes, wipeD, i2, d1, d2, d3, startD, List.map_cons, List.map_nil, List.length_cons, List.length_nil, List.cons_append, List.nil_append, List.append_nil, List.getElem?_cons_zero, List.getElem?_cons_succ, List.getElem?_nil, List.replicate, List.set_cons_succ, List.set_cons_zero, Nat.reduceAdd, Nat.reduceSub, Nat.reduceLeDiff, run_eqi, run_nei, run_lt, run_le, run_gt, run_ge, run_addi, run_iaddi, true_and, and_true, Bool.not_eq_true, Bool.not_true, Bool.not_false, if_true, if_false, Bool.false_eq_true, ite_true, ite_false, reduceIte, reduceCtorEq, decide_eq_true_eq, decide_eq_false_iff_not, Option.isSome_some, Option.isSome_none, Bool.true_bne, Bool.false_bne]
    rw [len3]
    simp only [dSeq, dIfS, dTest, dOp, dName, dC, dRet, dLstF, dCons, dNil, dTup, dNext, dAsg, dLstM, gdName, dDrop, dM, dM0, dIf, dAnd, dOr, dNot, dAndV, dOrV, dNotV, dChain, dFz, dRetF, dRetN, dBreak, dCont, dCB, gdTup, gdCons, gdNil, gdSub, dNeg, dAug, dAugS, dFrz, dPar, dNoPart, dPart, dSlice, dYes, wipeD, i2, d1, d2, d3, startD, List.map_cons, List.map_nil, List.length_cons, List.length_nil, List.cons_append, List.nil_append, List.append_nil, List.getElem?_cons_zero, List.getElem?_cons_succ, List.getElem?_nil, List.replicate, List.set_cons_succ, List.set_cons_zero, Nat.reduceAdd, Nat.reduceSub, Nat.reduceLeDiff, run_eqi, run_nei, run_lt, run_le, run_gt, run_ge, run_addi, run_iaddi, true_and, and_true, Bool.not_eq_true, Bool.not_true, Bool.not_false, if_true, if_false, Bool.false_eq_true, ite_true, ite_false, reduceIte, reduceCtorEq, decide_eq_true_eq, decide_eq_false_iff_not, Option.isSome_some, Option.isSome_none, Bool.true_bne, Bool.false_bne]
    rw [if_neg (by decide)]
    refine run_ix (by decide) rfl ⟨_, _, _, rfl, rfl, rfl, ?_⟩
    dsimp only
    by_cases h1 : a ≤ p.1 ∧ p.1 ≤ b
    · rw [decide_eq_true h1, if_pos rfl]
      refine run_ix (by decide) rfl ⟨_, _, _, rfl, rfl, rfl, ?_⟩
      dsimp only
      by_cases h2 : a ≤ p.2.1 ∧ p.2.1 ≤ b
      · rw [decide_eq_true h2, if_pos rfl]
        refine run_ix (by decide) rfl ⟨_, _, _, rfl, rfl, rfl, ?_⟩
        have e : decide (okPt a b p) = decide (1 ≤ p.2.2 ∧ p.2.2 ≤ 99) := by rw [Bool.eq_iff_iff]; simp [okPt, h1, h2]
        rw [e] at q
        exact q
      · rw [decide_eq_false h2, if_neg Bool.false_ne_true]
        have e : decide (okPt a b p) = false := by rw [decide_eq_false_iff_not]; exact fun z => h2 z.2.1
        rw [e] at q
        exact q
    · rw [decide_eq_false h1, if_neg Bool.false_ne_true]
      have e : decide (okPt a b p) = false := by rw [decide_eq_false_iff_not]; exact fun z => h1 z.1
      rw [e] at q
      exact q
/-- a quarter turn, or more -/
def rot (x y t : Int) : Int × Int := if t = 0 then (x, y) else if t = 1 then (0 - y, x) else if t = 2 then (0 - x, 0 - y) else (y, 0 - x)
def sp_turned : DRn := d3 fun x y t G Q => ∃ i j k : Int, x = .int i ∧ y = .int j ∧ t = .int k ∧ Q (e2 (rot i j k)) G
abbrev N_turned : List Str := ["x", "y", "turn"]
def T_turned : DTS :=
    (dSeq (dIfS (dTest (dOp dEq (dName 2) (dC (.int 0))))
    (dRet (dTup (dCons (dName 0) (dCons (dName 1) dNil))))
    dNext)
    (dSeq (dIfS (dTest (dOp dEq (dName 2) (dC (.int 1))))
    (dRet (dTup (dCons (dOp dSub (dC (.int 0)) (dName 1)) (dCons (dName 0) dNil))))
    dNext)
    (dRet (dIf (dTest (dOp dEq (dName 2) (dC (.int 2)))) (dTup (dCons (dOp dSub (dC (.int 0)) (dName 0)) (dCons (dOp dSub (dC (.int 0)) (dName 1)) dNil))) (dTup (dCons (dName 1) (dCons (dOp dSub (dC (.int 0)) (dName 0)) dNil)))))))
theorem len_turned : ∀ ds G Q, sp_turned ds G Q → ds.length = 3 := fun ds G Q h => by
  match ds, h with
  | [_, _, _], _ => rfl
theorem run_turned : ∀ ds G Q, sp_turned ds G Q → T_turned { nx := fun _ G' => Q .non G', rt := Q } (startD N_turned ds) G := fun ds G Q h => by
  match ds, h with
  | [_, _, _], ⟨i, j, k, rfl, rfl, rfl, q⟩ =>
    unfold rot at q
    simp only [T_turned, N_turned, dSeq, dIfS, dTest, dOp, dName, dC, dRet, dLstF, dCons, dNil, dTup, dNext, dAsg, dLstM, gdName, dDrop, dM, dM0, dIf, dAnd, dOr, dNot, dAndV, dOrV, dNotV, dChain, dFz, dRetF, dRetN, dBreak, dCont, dCB, gdTup, gdCons, gdNil, gdSub, dNeg, dAug, dAugS, dFrz, dPar, dNoPart, dPart, dSlice, dYes, wipeD, i2, d1, d2, d3, startD, List.map_cons, List.map_nil, List.length_cons, List.length_nil, List.cons_append, List.nil_append, List.append_nil, List.getElem?_cons_zero, List.getElem?_cons_succ, List.getElem?_nil, List.replicate, List.set_cons_succ, List.set_cons_zero, Nat.reduceAdd, Nat.reduceSub, Nat.reduceLeDiff, run_eqi, run_nei, run_lt, run_le, run_gt, run_ge, run_addi, run_iaddi, true_and, and_true, Bool.not_eq_true, Bool.not_true, Bool.not_false, if_true, if_false, Bool.false_eq_true, ite_true, ite_false, reduceIte, reduceCtorEq, decide_eq_true_eq, decide_eq_false_iff_not, Option.isSome_some, Option.isSome_none, Bool.true_bne, Bool.false_bne]
    by_cases h0 : k = 0
    · rw [if_pos h0] at q ⊢
      exact q
    · rw [if_neg h0] at q ⊢
      by_cases h1 : k = 1
      · rw [if_pos h1] at q ⊢
        exact q
      · rw [if_neg h1] at q ⊢
        by_cases h2 : k = 2
        · rw [if_pos h2] at q ⊢
          exact q
        · rw [if_neg h2] at q ⊢
          exact q
/-! ### what a sky is -/
structure Cam where
  w : Int
  h : Int
  er : Int
  fa : Int
  lo : Int
structure Sk where
  cs : List (Int × Int × Int)
  cam : Cam
  tu : List Int
  ar : Int × Int × Int × Int
def gD (cs : List (Int × Int × Int)) : D := .nd (.ins CA.Ground ["craters"]) [eT e3 cs]
def cD (c : Cam) : D := .nd (.ins CA.Camera ["width", "height", "error", "false", "lost"]) [.int c.w, .int c.h, .int c.er, .int c.fa, .int c.lo]
def e4 (a : Int × Int × Int × Int) : D := .nd .tup [.int a.1, .int a.2.1, .int a.2.2.1, .int a.2.2.2]
def sD (s : Sk) : D := .nd (.ins CA.Sky ["ground", "camera", "turns", "area"]) [gD s.cs, cD s.cam, eT .int s.tu, e4 s.ar]
def okCam (c : Cam) : Prop := (1 ≤ c.w ∧ c.w ≤ 1000) ∧ (1 ≤ c.h ∧ c.h ≤ 1000) ∧ (0 ≤ c.er ∧ c.er ≤ 100) ∧ (0 ≤ c.fa ∧ c.fa ≤ 100) ∧ (0 ≤ c.lo ∧ c.lo ≤ 100)
section
variable {T : DTE} {η : DSt} {G : DHp} {Q : DVK}
theorem fld_ins {C : Addr} {n : Str} {ns : List Str} {ds : List D} : fldD C n (.nd (.ins C ns) ds) G = (ns.zip ds).lookup n := if_pos rfl
theorem fl_craters {cs : List (Int × Int × Int)} : fldD CA.Ground "craters" (gD cs) G = some (eT e3 cs) := by unfold gD; rw [fld_ins]; rfl
theorem fl_width {c : Cam} : fldD CA.Camera "width" (cD c) G = some (.int c.w) := by unfold cD; rw [fld_ins]; rfl
theorem fl_height {c : Cam} : fldD CA.Camera "height" (cD c) G = some (.int c.h) := by unfold cD; rw [fld_ins]; rfl
theorem fl_error {c : Cam} : fldD CA.Camera "error" (cD c) G = some (.int c.er) := by unfold cD; rw [fld_ins]; rfl
theorem fl_false {c : Cam} : fldD CA.Camera "false" (cD c) G = some (.int c.fa) := by unfold cD; rw [fld_ins]; rfl
theorem fl_lost {c : Cam} : fldD CA.Camera "lost" (cD c) G = some (.int c.lo) := by unfold cD; rw [fld_ins]; rfl
theorem fl_ground {s : Sk} : fldD CA.Sky "ground" (sD s) G = some (gD s.cs) := by unfold sD; rw [fld_ins]; rfl
theorem fl_camera {s : Sk} : fldD CA.Sky "camera" (sD s) G = some (cD s.cam) := by unfold sD; rw [fld_ins]; rfl
theorem fl_turns {s : Sk} : fldD CA.Sky "turns" (sD s) G = some (eT .int s.tu) := by unfold sD; rw [fld_ins]; rfl
theorem fl_area {s : Sk} : fldD CA.Sky "area" (sD s) G = some (e4 s.ar) := by unfold sD; rw [fld_ins]; rfl
end
end M
namespace M
open PySem PySem.Spec PyProof.Rows L2 DL
variable [CA]

/-! ### the makes -/
def sp_Ground___init__ : DRn := d2 fun s c G Q => ∃ (x : Addr) (cs : List (Int × Int × Int)), s = .ref x ∧ c = eL e3 cs ∧ G x = some (.ins CA.Ground []) ∧ cs.length ≤ 100 ∧ (∀ p ∈ cs, okPt (0 - 1000000) 1000000 p) ∧
  Q .non (up G x (.ins CA.Ground [("craters", eT e3 (srtT e3 cs))]))
abbrev N_Ground___init__ : List Str := ["self", "craters", "number", "crater"]
def T_Ground___init__ : DTS :=
    (dSeq (dFor (diEnum (dCons (dName 1) dNil)) (gdTup (gdCons (gdName 2) (gdCons (gdName 3) gdNil)) 2)
    (dIfS (dOr (dTest (dOp dGe (dName 2) (dC (.int 100)))) (dNot (dTest (dCB sp_is_point (dCons (dName 3) (dCons (dOp dSub (dC (.int 0)) (dC (.int 1000000))) (dCons (dC (.int 1000000)) dNil)))))))
    dNever
    dNext))
    (dFldS CA.Ground "craters" (dName 0) (dCB dTuple (dCons (dFz (dCB dSorted (dCons (dName 1) dNil))) dNil))))
theorem len_Ground___init__ : ∀ ds G Q, sp_Ground___init__ ds G Q → ds.length = 2 := fun ds G Q h => by
  match ds, h with
  | [_, _], _ => rfl
theorem dep_e3 (p : Int × Int × Int) : (py (e3 p)).depth ≤ 60 := Nat.le_trans (depth_e3 p) (by decide)
/-- a field set -/
theorem run_fs {C : Addr} {n : Str} {To Tv : DTE} {F : DEnds} {η : DSt} {G : DHp} {x : Addr} {y : D} {fs : List (Str × D)} (ho : ∀ R : DVK, R (.ref x) G → To η G R) (hG : G x = some (.ins C fs)) (hl : fs.length < 1000)
    (k : F.nx η (up G x (.ins C (fput n y fs)))) (hv : ∀ R : DVK, R y G → Tv η G R) : dFldS C n To Tv F η G := by
  refine hv _ (ho _ ?_)
  show (match G x with | some (.ins B fs) => _ | _ => False)
  rw [hG]
  exact ⟨⟨rfl, hl⟩, k⟩
theorem run_Ground___init__ : ∀ ds G Q, sp_Ground___init__ ds G Q → T_Ground___init__ { nx := fun _ G' => Q .non G', rt := Q } (startD N_Ground___init__ ds) G := fun ds G Q h => by
  match ds, h with
  | [_, _], ⟨x, cs, rfl, rfl, hG, hl, hok, q⟩ =>
    simp only [T_Ground___init__, N_Ground___init__, dFor, diEnum, eL, dSeq, dIfS, dTest, dOp, dName, dC, dRet, dLstF, dCons, dNil, dTup, dNext, dAsg, dLstM, gdName, dDrop, dM, dM0, dIf, dAnd, dOr, dNot, dAndV, dOrV, dNotV, dChain, dFz, dRetF, dRetN, dBreak, dCont, dCB, gdTup, gdCons, gdNil, gdSub, dNeg, dAug, dAugS, dFrz, dPar, dNoPart, dPart, dSlice, dYes, wipeD, i2, d1, d2, d3, startD, List.map_cons, List.map_nil, List.length_cons, List.length_nil, List.cons_append, List.nil_append, List.append_nil, List.getElem?_cons_zero, List.getElem?_cons_succ, List.getElem?_nil, List.replicate, List.set_cons_succ, List.set_cons_zero, Nat.reduceAdd, Nat.reduceSub, Nat.reduceLeDiff, run_eqi, run_nei, run_lt, run_le, run_gt, run_ge, run_addi, run_iaddi, true_and, and_true, Bool.not_eq_true, Bool.not_true, Bool.not_false, if_true, if_false, Bool.false_eq_true, ite_true, ite_false, reduceIte, reduceCtorEq, decide_eq_true_eq, decide_eq_false_iff_not, Option.isSome_some, Option.isSome_none, Bool.true_bne, Bool.false_bne]
    refine ⟨fun i η G' => ∃ nu cr, η = [some (.ref x), some (eL e3 cs), nu, cr] ∧ G' = G, ⟨none, none, rfl, rfl⟩, fun _ _ _ _ => trivial, ?_, ?_⟩
    · rintro i d η G' hd ⟨nu, cr, rfl, rfl⟩
      obtain ⟨z, hz, rfl⟩ := enumL_get hd
      obtain ⟨p, hp, rfl⟩ := get_map hz
      have hi : i < cs.length := (List.getElem?_eq_some_iff.mp hp).1
      simp only [dNever, dSeq, dIfS, dTest, dOp, dName, dC, dRet, dLstF, dCons, dNil, dTup, dNext, dAsg, dLstM, gdName, dDrop, dM, dM0, dIf, dAnd, dOr, dNot, dAndV, dOrV, dNotV, dChain, dFz, dRetF, dRetN, dBreak, dCont, dCB, gdTup, gdCons, gdNil, gdSub, dNeg, dAug, dAugS, dFrz, dPar, dNoPart, dPart, dSlice, dYes, wipeD, i2, d1, d2, d3, startD, List.map_cons, List.map_nil, List.length_cons, List.length_nil, List.cons_append, List.nil_append, List.append_nil, List.getElem?_cons_zero, List.getElem?_cons_succ, List.getElem?_nil, List.replicate, List.set_cons_succ, List.set_cons_zero, Nat.reduceAdd, Nat.reduceSub, Nat.reduceLeDiff, run_eqi, run_nei, run_lt, run_le, run_gt, run_ge, run_addi, run_iaddi, true_and, and_true, Bool.not_eq_true, Bool.not_true, Bool.not_false, if_true, if_false, Bool.false_eq_true, ite_true, ite_false, reduceIte, reduceCtorEq, decide_eq_true_eq, decide_eq_false_iff_not, Option.isSome_some, Option.isSome_none, Bool.true_bne, Bool.false_bne]
      rw [if_neg (by omega)]
      refine ⟨p, _, _, rfl, rfl, rfl, ?_⟩
      rw [decide_eq_true (hok p (List.mem_of_getElem? hp))]
      simp only [dSeq, dIfS, dTest, dOp, dName, dC, dRet, dLstF, dCons, dNil, dTup, dNext, dAsg, dLstM, gdName, dDrop, dM, dM0, dIf, dAnd, dOr, dNot, dAndV, dOrV, dNotV, dChain, dFz, dRetF, dRetN, dBreak, dCont, dCB, gdTup, gdCons, gdNil, gdSub, dNeg, dAug, dAugS, dFrz, dPar, dNoPart, dPart, dSlice, dYes, wipeD, i2, d1, d2, d3, startD, List.map_cons, List.map_nil, List.length_cons, List.length_nil, List.cons_append, List.nil_append, List.append_nil, List.getElem?_cons_zero, List.getElem?_cons_succ, List.getElem?_nil, List.replicate, List.set_cons_succ, List.set_cons_zero, Nat.reduceAdd, Nat.reduceSub, Nat.reduceLeDiff, run_eqi, run_nei, run_lt, run_le, run_gt, run_ge, run_addi, run_iaddi, true_and, and_true, Bool.not_eq_true, Bool.not_true, Bool.not_false, if_true, if_false, Bool.false_eq_true, ite_true, ite_false, reduceIte, reduceCtorEq, decide_eq_true_eq, decide_eq_false_iff_not, Option.isSome_some, Option.isSome_none, Bool.true_bne, Bool.false_bne]
      exact ⟨_, (by repeat (first | exact Le.nil | apply Le.keep | apply Le.drop)), _, _, rfl, rfl⟩
    · rintro η G' ⟨nu, cr, rfl, rfl⟩
      refine run_fs (fs := []) (y := eT e3 (srtT e3 cs)) (fun R r => r) hG (by decide) q fun R r => ?_
      simp only [dSeq, dIfS, dTest, dOp, dName, dC, dRet, dLstF, dCons, dNil, dTup, dNext, dAsg, dLstM, gdName, dDrop, dM, dM0, dIf, dAnd, dOr, dNot, dAndV, dOrV, dNotV, dChain, dFz, dRetF, dRetN, dBreak, dCont, dCB, gdTup, gdCons, gdNil, gdSub, dNeg, dAug, dAugS, dFrz, dPar, dNoPart, dPart, dSlice, dYes, wipeD, i2, d1, d2, d3, startD, List.map_cons, List.map_nil, List.length_cons, List.length_nil, List.cons_append, List.nil_append, List.append_nil, List.getElem?_cons_zero, List.getElem?_cons_succ, List.getElem?_nil, List.replicate, List.set_cons_succ, List.set_cons_zero, Nat.reduceAdd, Nat.reduceSub, Nat.reduceLeDiff, run_eqi, run_nei, run_lt, run_le, run_gt, run_ge, run_addi, run_iaddi, true_and, and_true, Bool.not_eq_true, Bool.not_true, Bool.not_false, if_true, if_false, Bool.false_eq_true, ite_true, ite_false, reduceIte, reduceCtorEq, decide_eq_true_eq, decide_eq_false_iff_not, Option.isSome_some, Option.isSome_none, Bool.true_bne, Bool.false_bne]
      refine run_sorted (f := e3) (xs := cs) rfl (fun _ => rfl) al3 (st3 cs) dep_e3 fun p hp => ?_
      simp only [up_same, dl_up hp, dSeq, dIfS, dTest, dOp, dName, dC, dRet, dLstF, dCons, dNil, dTup, dNext, dAsg, dLstM, gdName, dDrop, dM, dM0, dIf, dAnd, dOr, dNot, dAndV, dOrV, dNotV, dChain, dFz, dRetF, dRetN, dBreak, dCont, dCB, gdTup, gdCons, gdNil, gdSub, dNeg, dAug, dAugS, dFrz, dPar, dNoPart, dPart, dSlice, dYes, wipeD, i2, d1, d2, d3, startD, List.map_cons, List.map_nil, List.length_cons, List.length_nil, List.cons_append, List.nil_append, List.append_nil, List.getElem?_cons_zero, List.getElem?_cons_succ, List.getElem?_nil, List.replicate, List.set_cons_succ, List.set_cons_zero, Nat.reduceAdd, Nat.reduceSub, Nat.reduceLeDiff, run_eqi, run_nei, run_lt, run_le, run_gt, run_ge, run_addi, run_iaddi, true_and, and_true, Bool.not_eq_true, Bool.not_true, Bool.not_false, if_true, if_false, Bool.false_eq_true, ite_true, ite_false, reduceIte, reduceCtorEq, decide_eq_true_eq, decide_eq_false_iff_not, Option.isSome_some, Option.isSome_none, Bool.true_bne, Bool.false_bne]
      rw [run_tup (ds := (srtT e3 cs).map e3) rfl]
      exact r
def sp_Camera___init__ : DRn := fun ds G Q => ∃ (x : Addr) (c : Cam), ds = [.ref x, .int c.w, .int c.h, .int c.er, .int c.fa, .int c.lo] ∧ G x = some (.ins CA.Camera []) ∧ okCam c ∧
  Q .non (up G x (.ins CA.Camera [("width", .int c.w), ("height", .int c.h), ("error", .int c.er), ("false", .int c.fa), ("lost", .int c.lo)]))
abbrev N_Camera___init__ : List Str := ["self", "width", "height", "error", "false", "lost", "word", "number", "low", "high"]
def U_Camera___init___0 : DTS :=
    (dFor (diSeq (dTup (dCons (dTup (dCons (dC (.str "width")) (dCons (dName 1) (dCons (dC (.int 1)) (dCons (dC (.int 1000)) dNil))))) (dCons (dTup (dCons (dC (.str "height")) (dCons (dName 2) (dCons (dC (.int 1)) (dCons (dC (.int 1000)) dNil))))) (dCons (dTup (dCons (dC (.str "error")) (dCons (dName 3) (dCons (dC (.int 0)) (dCons (dC (.int 100)) dNil))))) (dCons (dTup (dCons (dC (.str "false")) (dCons (dName 4) (dCons (dC (.int 0)) (dCons (dC (.int 100)) dNil))))) (dCons (dTup (dCons (dC (.str "lost")) (dCons (dName 5) (dCons (dC (.int 0)) (dCons (dC (.int 100)) dNil))))) dNil))))))) (gdTup (gdCons (gdName 6) (gdCons (gdName 7) (gdCons (gdName 8) (gdCons (gdName 9) gdNil)))) 4)
    (dIfS (dNot (dTest (dCB sp_is_whole (dCons (dName 7) (dCons (dName 8) (dCons (dName 9) dNil))))))
    dNever
    dNext))
def U_Camera___init___1 : DTS :=
    (dFldS CA.Camera "width" (dName 0) (dName 1))
def U_Camera___init___2 : DTS :=
    (dFldS CA.Camera "height" (dName 0) (dName 2))
def U_Camera___init___3 : DTS :=
    (dFldS CA.Camera "error" (dName 0) (dName 3))
def U_Camera___init___4 : DTS :=
    (dFldS CA.Camera "false" (dName 0) (dName 4))
def U_Camera___init___5 : DTS :=
    (dFldS CA.Camera "lost" (dName 0) (dName 5))
def T_Camera___init___5 : DTS :=
    U_Camera___init___5
def T_Camera___init___4 : DTS :=
    (dSeq U_Camera___init___4 T_Camera___init___5)
def T_Camera___init___3 : DTS :=
    (dSeq U_Camera___init___3 T_Camera___init___4)
def T_Camera___init___2 : DTS :=
    (dSeq U_Camera___init___2 T_Camera___init___3)
def T_Camera___init___1 : DTS :=
    (dSeq U_Camera___init___1 T_Camera___init___2)
def T_Camera___init__ : DTS :=
    (dSeq U_Camera___init___0 T_Camera___init___1)
theorem len_Camera___init__ : ∀ ds G Q, sp_Camera___init__ ds G Q → ds.length = 6 := fun ds G Q ⟨x, c, e, _⟩ => by rw [e]; rfl
theorem cam_u0 {F : DEnds} {x : Addr} {c : Cam} {G : DHp} (ok : okCam c) (k : ∀ a b d e, F.nx [some (.ref x), some (.int c.w), some (.int c.h), some (.int c.er), some (.int c.fa), some (.int c.lo), a, b, d, e] G) : U_Camera___init___0 F (startD N_Camera___init__ [.ref x, .int c.w, .int c.h, .int c.er, .int c.fa, .int c.lo]) G := by
  simp only [U_Camera___init___0, N_Camera___init__, dFor, diSeq, dSeq, dIfS, dTest, dOp, dName, dC, dRet, dLstF, dCons, dNil, dTup, dNext, dAsg, dLstM, gdName, dDrop, dM, dM0, dIf, dAnd, dOr, dNot, dAndV, dOrV, dNotV, dChain, dFz, dRetF, dRetN, dBreak, dCont, dCB, gdTup, gdCons, gdNil, gdSub, dNeg, dAug, dAugS, dFrz, dPar, dNoPart, dPart, dSlice, dYes, wipeD, i2, d1, d2, d3, startD, List.map_cons, List.map_nil, List.length_cons, List.length_nil, List.cons_append, List.nil_append, List.append_nil, List.getElem?_cons_zero, List.getElem?_cons_succ, List.getElem?_nil, List.replicate, List.set_cons_succ, List.set_cons_zero, Nat.reduceAdd, Nat.reduceSub, Nat.reduceLeDiff, run_eqi, run_nei, run_lt, run_le, run_gt, run_ge, run_addi, run_iaddi, true_and, and_true, Bool.not_eq_true, Bool.not_true, Bool.not_false, if_true, if_false, Bool.false_eq_true, ite_true, ite_false, reduceIte, reduceCtorEq, decide_eq_true_eq, decide_eq_false_iff_not, Option.isSome_some, Option.isSome_none, Bool.true_bne, Bool.false_bne]
  refine ⟨fun i η G' => ∃ a b d e, η = [some (.ref x), some (.int c.w), some (.int c.h), some (.int c.er), some (.int c.fa), some (.int c.lo), a, b, d, e] ∧ G' = G, ⟨none, none, none, none, rfl, rfl⟩, fun _ _ _ _ => trivial, ?_, ?_⟩
  · rintro i d η G' hd ⟨a, b, z, e, rfl, rfl⟩
    have hm := List.mem_of_getElem? hd
    have key : ∃ (w : Str) (n lo hi : Int), d = .nd .tup [.str w, .int n, .int lo, .int hi] ∧ lo ≤ n ∧ n ≤ hi := by
      simp only [List.mem_cons, List.not_mem_nil, or_false] at hm
      obtain ⟨o1, o2, o3, o4, o5⟩ := ok
      rcases hm with h | h | h | h | h
      · exact ⟨_, _, _, _, h, o1.1, o1.2⟩
      · exact ⟨_, _, _, _, h, o2.1, o2.2⟩
      · exact ⟨_, _, _, _, h, o3.1, o3.2⟩
      · exact ⟨_, _, _, _, h, o4.1, o4.2⟩
      · exact ⟨_, _, _, _, h, o5.1, o5.2⟩
    clear hd hm
    obtain ⟨w, n, lo, hi, rfl, h1, h2⟩ := key
    simp only [dSeq, dIfS, dTest, dOp, dName, dC, dRet, dLstF, dCons, dNil, dTup, dNext, dAsg, dLstM, gdName, dDrop, dM, dM0, dIf, dAnd, dOr, dNot, dAndV, dOrV, dNotV, dChain, dFz, dRetF, dRetN, dBreak, dCont, dCB, gdTup, gdCons, gdNil, gdSub, dNeg, dAug, dAugS, dFrz, dPar, dNoPart, dPart, dSlice, dYes, wipeD, i2, d1, d2, d3, startD, List.map_cons, List.map_nil, List.length_cons, List.length_nil, List.cons_append, List.nil_append, List.append_nil, List.getElem?_cons_zero, List.getElem?_cons_succ, List.getElem?_nil, List.replicate, List.set_cons_succ, List.set_cons_zero, Nat.reduceAdd, Nat.reduceSub, Nat.reduceLeDiff, run_eqi, run_nei, run_lt, run_le, run_gt, run_ge, run_addi, run_iaddi, true_and, and_true, Bool.not_eq_true, Bool.not_true, Bool.not_false, if_true, if_false, Bool.false_eq_true, ite_true, ite_false, reduceIte, reduceCtorEq, decide_eq_true_eq, decide_eq_false_iff_not, Option.isSome_some, Option.isSome_none, Bool.true_bne, Bool.false_bne]
    refine ⟨n, lo, hi, rfl, rfl, rfl, ?_⟩
    rw [decide_eq_true ⟨h1, h2⟩]
    simp only [dSeq, dIfS, dTest, dOp, dName, dC, dRet, dLstF, dCons, dNil, dTup, dNext, dAsg, dLstM, gdName, dDrop, dM, dM0, dIf, dAnd, dOr, dNot, dAndV, dOrV, dNotV, dChain, dFz, dRetF, dRetN, dBreak, dCont, dCB, gdTup, gdCons, gdNil, gdSub, dNeg, dAug, dAugS, dFrz, dPar, dNoPart, dPart, dSlice, dYes, wipeD, i2, d1, d2, d3, startD, List.map_cons, List.map_nil, List.length_cons, List.length_nil, List.cons_append, List.nil_append, List.append_nil, List.getElem?_cons_zero, List.getElem?_cons_succ, List.getElem?_nil, List.replicate, List.set_cons_succ, List.set_cons_zero, Nat.reduceAdd, Nat.reduceSub, Nat.reduceLeDiff, run_eqi, run_nei, run_lt, run_le, run_gt, run_ge, run_addi, run_iaddi, true_and, and_true, Bool.not_eq_true, Bool.not_true, Bool.not_false, if_true, if_false, Bool.false_eq_true, ite_true, ite_false, reduceIte, reduceCtorEq, decide_eq_true_eq, decide_eq_false_iff_not, Option.isSome_some, Option.isSome_none, Bool.true_bne, Bool.false_bne]
    exact ⟨_, (by repeat (first | exact Le.nil | apply Le.keep | apply Le.drop)), _, _, _, _, rfl, rfl⟩
  · rintro η G' ⟨a, b, z, e, rfl, rfl⟩
    exact k _ _ _ _
/-- a field set, what stands then told -/
theorem run_fn {C : Addr} {n : Str} {To Tv : DTE} {F : DEnds} {η : DSt} {G : DHp} {x : Addr} {y : D} {fs fs' : List (Str × D)} (ho : ∀ R : DVK, R (.ref x) G → To η G R) (hv : ∀ R : DVK, R y G → Tv η G R) (hG : G x = some (.ins C fs)) (hl : fs.length < 1000) (hf : fput n y fs = fs')
    (k : F.nx η (up G x (.ins C fs'))) : dFldS C n To Tv F η G := run_fs ho hG hl (by rw [hf]; exact k) hv
theorem run_Camera___init__ : ∀ ds G Q, sp_Camera___init__ ds G Q → T_Camera___init__ { nx := fun _ G' => Q .non G', rt := Q } (startD N_Camera___init__ ds) G := fun ds G Q h => by
  obtain ⟨x, c, rfl, hG, ok, q⟩ := h
  refine cam_u0 ok fun a b d e => ?_
  dsimp only [T_Camera___init___1, U_Camera___init___1, dSeq]
  refine run_fn (fs' := [("width", .int c.w)]) (fun R r => r) (fun R r => r) hG (by decide) rfl ?_
  dsimp only [T_Camera___init___2, U_Camera___init___2, dSeq]
  refine run_fn (fs' := [("width", .int c.w), ("height", .int c.h)]) (fun R r => r) (fun R r => r) up_same (by show _ < 1000; simp) rfl ?_
  rw [up_up]
  dsimp only [T_Camera___init___3, U_Camera___init___3, dSeq]
  refine run_fn (fs' := [("width", .int c.w), ("height", .int c.h), ("error", .int c.er)]) (fun R r => r) (fun R r => r) up_same (by show _ < 1000; simp) rfl ?_
  rw [up_up]
  dsimp only [T_Camera___init___4, U_Camera___init___4, dSeq]
  refine run_fn (fs' := [("width", .int c.w), ("height", .int c.h), ("error", .int c.er), ("false", .int c.fa)]) (fun R r => r) (fun R r => r) up_same (by show _ < 1000; simp) rfl ?_
  rw [up_up]
  dsimp only [T_Camera___init___5, U_Camera___init___5, dSeq]
  refine run_fn (fs' := [("width", .int c.w), ("height", .int c.h), ("error", .int c.er), ("false", .int c.fa), ("lost", .int c.lo)]) (fun R r => r) (fun R r => r) up_same (by show _ < 1000; simp) rfl ?_
  rw [up_up]
  exact q
end M
namespace M
open PySem PySem.Spec PyProof.Rows L2 DL
variable [CA]

/-! ### is_within, is_sure -/
def inC (c : Cam) (x y m : Int) : Prop := (0 - m ≤ x ∧ x < c.w + m) ∧ 0 - m ≤ y ∧ y < c.h + m
instance (c : Cam) (x y m : Int) : Decidable (inC c x y m) := by unfold inC; infer_instance
def sp_Camera_is_within : DRn := fun ds G Q => ∃ (c : Cam) (x y m : Int), ds = [cD c, .int x, .int y, .int m] ∧ Q (.bl (decide (inC c x y m))) G
abbrev N_Camera_is_within : List Str := ["self", "x", "y", "more"]
def T_Camera_is_within : DTS :=
    (dRet (dAndV (dChain dLe dLt (dOp dSub (dC (.int 0)) (dName 3)) (dName 1) (dOp dAdd (dFld CA.Camera "width" (dName 0)) (dName 3))) (dChain dLe dLt (dOp dSub (dC (.int 0)) (dName 3)) (dName 2) (dOp dAdd (dFld CA.Camera "height" (dName 0)) (dName 3)))))
theorem len_Camera_is_within : ∀ ds G Q, sp_Camera_is_within ds G Q → ds.length = 4 := fun ds G Q ⟨c, x, y, m, e, _⟩ => by rw [e]; rfl
theorem run_Camera_is_within : ∀ ds G Q, sp_Camera_is_within ds G Q → T_Camera_is_within { nx := fun _ G' => Q .non G', rt := Q } (startD N_Camera_is_within ds) G := fun ds G Q h => by
  obtain ⟨c, x, y, m, rfl, q⟩ := h
  simp only [T_Camera_is_within, N_Camera_is_within, dFld, fl_width, fl_height, dSeq, dIfS, dTest, dOp, dName, dC, dRet, dLstF, dCons, dNil, dTup, dNext, dAsg, dLstM, gdName, dDrop, dM, dM0, dIf, dAnd, dOr, dNot, dAndV, dOrV, dNotV, dChain, dFz, dRetF, dRetN, dBreak, dCont, dCB, gdTup, gdCons, gdNil, gdSub, dNeg, dAug, dAugS, dFrz, dPar, dNoPart, dPart, dSlice, dYes, wipeD, i2, d1, d2, d3, startD, List.map_cons, List.map_nil, List.length_cons, List.length_nil, List.cons_append, List.nil_append, List.append_nil, List.getElem?_cons_zero, List.getElem?_cons_succ, List.getElem?_nil, List.replicate, List.set_cons_succ, List.set_cons_zero, Nat.reduceAdd, Nat.reduceSub, Nat.reduceLeDiff, run_eqi, run_nei, run_lt, run_le, run_gt, run_ge, run_addi, run_iaddi, true_and, and_true, Bool.not_eq_true, Bool.not_true, Bool.not_false, if_true, if_false, Bool.false_eq_true, ite_true, ite_false, reduceIte, reduceCtorEq, decide_eq_true_eq, decide_eq_false_iff_not, Option.isSome_some, Option.isSome_none, Bool.true_bne, Bool.false_bne]
  have key : ∀ b : Bool, (b = true ↔ inC c x y m) → Q (.bl b) G := fun b hb => by
    have e : decide (inC c x y m) = b := by rw [Bool.eq_iff_iff, decide_eq_true_eq]; exact hb.symm
    rw [← e]; exact q
  by_cases h1 : 0 - m ≤ x
  · rw [if_pos h1]
    by_cases h2 : x < c.w + m
    · rw [if_pos h2]
      by_cases h3 : 0 - m ≤ y
      · rw [if_pos h3]
        exact key _ (by rw [decide_eq_true_eq]; exact ⟨fun z => ⟨⟨h1, h2⟩, h3, z⟩, fun z => z.2.2⟩)
      · rw [if_neg h3]
        exact key _ ⟨fun z => (by cases z), fun z => absurd z.2.1 h3⟩
    · rw [if_neg h2]
      exact key _ ⟨fun z => (by cases z), fun z => absurd z.1.2 h2⟩
  · rw [if_neg h1]
    exact key _ ⟨fun z => (by cases z), fun z => absurd z.1.1 h1⟩
theorem ins_cam {c : Cam} {m : Str} {G : DHp} (h : (["width", "height", "error", "false", "lost"] : List Str).contains m = false) : insD CA.Camera m (cD c) G := ⟨rfl, h⟩
theorem ins_sky {s : Sk} {m : Str} {G : DHp} (h : (["ground", "camera", "turns", "area"] : List Str).contains m = false) : insD CA.Sky m (sD s) G := ⟨rfl, h⟩
def sp_Camera_is_sure : DRn := fun ds G Q => ∃ (c : Cam) (x y : Int), ds = [cD c, .int x, .int y] ∧ Q (.bl (decide (inC c x y (0 - c.er)))) G
abbrev N_Camera_is_sure : List Str := ["self", "x", "y"]
def T_Camera_is_sure : DTS :=
    (dRet (dMeth CA.Camera "is_within" sp_Camera_is_within (dName 0) (dCons (dName 1) (dCons (dName 2) (dCons (dOp dSub (dC (.int 0)) (dFld CA.Camera "error" (dName 0))) dNil)))))
theorem len_Camera_is_sure : ∀ ds G Q, sp_Camera_is_sure ds G Q → ds.length = 3 := fun ds G Q ⟨c, x, y, e, _⟩ => by rw [e]; rfl
theorem run_Camera_is_sure : ∀ ds G Q, sp_Camera_is_sure ds G Q → T_Camera_is_sure { nx := fun _ G' => Q .non G', rt := Q } (startD N_Camera_is_sure ds) G := fun ds G Q h => by
  obtain ⟨c, x, y, rfl, q⟩ := h
  simp only [T_Camera_is_sure, N_Camera_is_sure, dFld, dMeth, fl_error, dSeq, dIfS, dTest, dOp, dName, dC, dRet, dLstF, dCons, dNil, dTup, dNext, dAsg, dLstM, gdName, dDrop, dM, dM0, dIf, dAnd, dOr, dNot, dAndV, dOrV, dNotV, dChain, dFz, dRetF, dRetN, dBreak, dCont, dCB, gdTup, gdCons, gdNil, gdSub, dNeg, dAug, dAugS, dFrz, dPar, dNoPart, dPart, dSlice, dYes, wipeD, i2, d1, d2, d3, startD, List.map_cons, List.map_nil, List.length_cons, List.length_nil, List.cons_append, List.nil_append, List.append_nil, List.getElem?_cons_zero, List.getElem?_cons_succ, List.getElem?_nil, List.replicate, List.set_cons_succ, List.set_cons_zero, Nat.reduceAdd, Nat.reduceSub, Nat.reduceLeDiff, run_eqi, run_nei, run_lt, run_le, run_gt, run_ge, run_addi, run_iaddi, true_and, and_true, Bool.not_eq_true, Bool.not_true, Bool.not_false, if_true, if_false, Bool.false_eq_true, ite_true, ite_false, reduceIte, reduceCtorEq, decide_eq_true_eq, decide_eq_false_iff_not, Option.isSome_some, Option.isSome_none, Bool.true_bne, Bool.false_bne]
  exact ⟨ins_cam (by decide), c, x, y, _, rfl, q⟩
/-! ### place, places -/
def plc (p st : Int × Int × Int) : Int × Int × Int := ((rot p.1 p.2.1 st.1).1 + st.2.1, (rot p.1 p.2.1 st.1).2 + st.2.2, p.2.2)
def sp_Sky_place : DRn := fun ds G Q => ∃ (s : Sk) (p st : Int × Int × Int), ds = [sD s, e3 p, e3 st] ∧ Q (e3 (plc p st)) G
abbrev N_Sky_place : List Str := ["self", "crater", "standing", "x", "y"]
def T_Sky_place : DTS :=
    (dSeq (dAsg (dCB sp_turned (dCons (dOp dIx (dName 1) (dC (.int 0))) (dCons (dOp dIx (dName 1) (dC (.int 1))) (dCons (dOp dIx (dName 2) (dC (.int 0))) dNil)))) (gdTup (gdCons (gdName 3) (gdCons (gdName 4) gdNil)) 2))
    (dRet (dTup (dCons (dOp dAdd (dName 3) (dOp dIx (dName 2) (dC (.int 1)))) (dCons (dOp dAdd (dName 4) (dOp dIx (dName 2) (dC (.int 2)))) (dCons (dOp dIx (dName 1) (dC (.int 2))) dNil))))))
theorem len_Sky_place : ∀ ds G Q, sp_Sky_place ds G Q → ds.length = 3 := fun ds G Q ⟨c, x, y, e, _⟩ => by rw [e]; rfl
theorem run_Sky_place : ∀ ds G Q, sp_Sky_place ds G Q → T_Sky_place { nx := fun _ G' => Q .non G', rt := Q } (startD N_Sky_place ds) G := fun ds G Q h => by
  obtain ⟨s, p, st, rfl, q⟩ := h
  simp only [T_Sky_place, N_Sky_place, e3, dSeq, dIfS, dTest, dOp, dName, dC, dRet, dLstF, dCons, dNil, dTup, dNext, dAsg, dLstM, gdName, dDrop, dM, dM0, dIf, dAnd, dOr, dNot, dAndV, dOrV, dNotV, dChain, dFz, dRetF, dRetN, dBreak, dCont, dCB, gdTup, gdCons, gdNil, gdSub, dNeg, dAug, dAugS, dFrz, dPar, dNoPart, dPart, dSlice, dYes, wipeD, i2, d1, d2, d3, startD, List.map_cons, List.map_nil, List.length_cons, List.length_nil, List.cons_append, List.nil_append, List.append_nil, List.getElem?_cons_zero, List.getElem?_cons_succ, List.getElem?_nil, List.replicate, List.set_cons_succ, List.set_cons_zero, Nat.reduceAdd, Nat.reduceSub, Nat.reduceLeDiff, run_eqi, run_nei, run_lt, run_le, run_gt, run_ge, run_addi, run_iaddi, true_and, and_true, Bool.not_eq_true, Bool.not_true, Bool.not_false, if_true, if_false, Bool.false_eq_true, ite_true, ite_false, reduceIte, reduceCtorEq, decide_eq_true_eq, decide_eq_false_iff_not, Option.isSome_some, Option.isSome_none, Bool.true_bne, Bool.false_bne]
  refine run_ix (by decide) rfl (run_ix (by decide) rfl (run_ix (by decide) rfl ⟨_, _, _, rfl, rfl, rfl, ?_⟩))
  simp only [e2, dSeq, dIfS, dTest, dOp, dName, dC, dRet, dLstF, dCons, dNil, dTup, dNext, dAsg, dLstM, gdName, dDrop, dM, dM0, dIf, dAnd, dOr, dNot, dAndV, dOrV, dNotV, dChain, dFz, dRetF, dRetN, dBreak, dCont, dCB, gdTup, gdCons, gdNil, gdSub, dNeg, dAug, dAugS, dFrz, dPar, dNoPart, dPart, dSlice, dYes, wipeD, i2, d1, d2, d3, startD, List.map_cons, List.map_nil, List.length_cons, List.length_nil, List.cons_append, List.nil_append, List.append_nil, List.getElem?_cons_zero, List.getElem?_cons_succ, List.getElem?_nil, List.replicate, List.set_cons_succ, List.set_cons_zero, Nat.reduceAdd, Nat.reduceSub, Nat.reduceLeDiff, run_eqi, run_nei, run_lt, run_le, run_gt, run_ge, run_addi, run_iaddi, true_and, and_true, Bool.not_eq_true, Bool.not_true, Bool.not_false, if_true, if_false, Bool.false_eq_true, ite_true, ite_false, reduceIte, reduceCtorEq, decide_eq_true_eq, decide_eq_false_iff_not, Option.isSome_some, Option.isSome_none, Bool.true_bne, Bool.false_bne]
  refine run_ix (by decide) rfl ?_
  simp only [dSeq, dIfS, dTest, dOp, dName, dC, dRet, dLstF, dCons, dNil, dTup, dNext, dAsg, dLstM, gdName, dDrop, dM, dM0, dIf, dAnd, dOr, dNot, dAndV, dOrV, dNotV, dChain, dFz, dRetF, dRetN, dBreak, dCont, dCB, gdTup, gdCons, gdNil, gdSub, dNeg, dAug, dAugS, dFrz, dPar, dNoPart, dPart, dSlice, dYes, wipeD, i2, d1, d2, d3, startD, List.map_cons, List.map_nil, List.length_cons, List.length_nil, List.cons_append, List.nil_append, List.append_nil, List.getElem?_cons_zero, List.getElem?_cons_succ, List.getElem?_nil, List.replicate, List.set_cons_succ, List.set_cons_zero, Nat.reduceAdd, Nat.reduceSub, Nat.reduceLeDiff, run_eqi, run_nei, run_lt, run_le, run_gt, run_ge, run_addi, run_iaddi, true_and, and_true, Bool.not_eq_true, Bool.not_true, Bool.not_false, if_true, if_false, Bool.false_eq_true, ite_true, ite_false, reduceIte, reduceCtorEq, decide_eq_true_eq, decide_eq_false_iff_not, Option.isSome_some, Option.isSome_none, Bool.true_bne, Bool.false_bne]
  refine run_ix (by decide) rfl ?_
  simp only [dSeq, dIfS, dTest, dOp, dName, dC, dRet, dLstF, dCons, dNil, dTup, dNext, dAsg, dLstM, gdName, dDrop, dM, dM0, dIf, dAnd, dOr, dNot, dAndV, dOrV, dNotV, dChain, dFz, dRetF, dRetN, dBreak, dCont, dCB, gdTup, gdCons, gdNil, gdSub, dNeg, dAug, dAugS, dFrz, dPar, dNoPart, dPart, dSlice, dYes, wipeD, i2, d1, d2, d3, startD, List.map_cons, List.map_nil, List.length_cons, List.length_nil, List.cons_append, List.nil_append, List.append_nil, List.getElem?_cons_zero, List.getElem?_cons_succ, List.getElem?_nil, List.replicate, List.set_cons_succ, List.set_cons_zero, Nat.reduceAdd, Nat.reduceSub, Nat.reduceLeDiff, run_eqi, run_nei, run_lt, run_le, run_gt, run_ge, run_addi, run_iaddi, true_and, and_true, Bool.not_eq_true, Bool.not_true, Bool.not_false, if_true, if_false, Bool.false_eq_true, ite_true, ite_false, reduceIte, reduceCtorEq, decide_eq_true_eq, decide_eq_false_iff_not, Option.isSome_some, Option.isSome_none, Bool.true_bne, Bool.false_bne]
  refine run_ix (by decide) rfl ?_
  exact q
def placesL (s : Sk) (st : Int × Int × Int) : List (Int × Int × Int) := s.cs.map fun p => plc p st
def sp_Sky_places : DRn := fun ds G Q => ∃ (s : Sk) (st : Int × Int × Int), ds = [sD s, e3 st] ∧ s.cs.length ≤ 100 ∧ Q (eL e3 (placesL s st)) G
abbrev N_Sky_places : List Str := ["self", "standing", "crater"]
def T_Sky_places : DTS :=
    (dRet (dFz (dLc (diSeq (dFld CA.Ground "craters" (dFld CA.Sky "ground" (dName 0)))) (gdName 2) dYes (dMeth CA.Sky "place" sp_Sky_place (dName 0) (dCons (dName 2) (dCons (dName 1) dNil))) [2])))
theorem len_Sky_places : ∀ ds G Q, sp_Sky_places ds G Q → ds.length = 2 := fun ds G Q ⟨c, x, e, _⟩ => by rw [e]; rfl
theorem run_Sky_places : ∀ ds G Q, sp_Sky_places ds G Q → T_Sky_places { nx := fun _ G' => Q .non G', rt := Q } (startD N_Sky_places ds) G := fun ds G Q h => by
  obtain ⟨s, st, rfl, hl, q⟩ := h
  simp only [T_Sky_places, N_Sky_places, dLc, diSeq, dFld, fl_ground, fl_craters, eT, dMeth, dSeq, dIfS, dTest, dOp, dName, dC, dRet, dLstF, dCons, dNil, dTup, dNext, dAsg, dLstM, gdName, dDrop, dM, dM0, dIf, dAnd, dOr, dNot, dAndV, dOrV, dNotV, dChain, dFz, dRetF, dRetN, dBreak, dCont, dCB, gdTup, gdCons, gdNil, gdSub, dNeg, dAug, dAugS, dFrz, dPar, dNoPart, dPart, dSlice, dYes, wipeD, i2, d1, d2, d3, startD, List.map_cons, List.map_nil, List.length_cons, List.length_nil, List.cons_append, List.nil_append, List.append_nil, List.getElem?_cons_zero, List.getElem?_cons_succ, List.getElem?_nil, List.replicate, List.set_cons_succ, List.set_cons_zero, Nat.reduceAdd, Nat.reduceSub, Nat.reduceLeDiff, run_eqi, run_nei, run_lt, run_le, run_gt, run_ge, run_addi, run_iaddi, true_and, and_true, Bool.not_eq_true, Bool.not_true, Bool.not_false, if_true, if_false, Bool.false_eq_true, ite_true, ite_false, reduceIte, reduceCtorEq, decide_eq_true_eq, decide_eq_false_iff_not, Option.isSome_some, Option.isSome_none, Bool.true_bne, Bool.false_bne]
  intro p hp
  refine ⟨fun i acc G' => acc = ((s.cs.take i).map fun p => plc p st).map e3 ∧ G' = up G p (.lst acc), ⟨rfl, rfl⟩, ?_, ?_, ?_⟩
  · rintro i acc G' ⟨rfl, rfl⟩
    exact ⟨trivial, up_same⟩
  · rintro i d acc G' hd ⟨rfl, rfl⟩
    obtain ⟨x, hx, rfl⟩ := get_map hd
    simp only [dSeq, dIfS, dTest, dOp, dName, dC, dRet, dLstF, dCons, dNil, dTup, dNext, dAsg, dLstM, gdName, dDrop, dM, dM0, dIf, dAnd, dOr, dNot, dAndV, dOrV, dNotV, dChain, dFz, dRetF, dRetN, dBreak, dCont, dCB, gdTup, gdCons, gdNil, gdSub, dNeg, dAug, dAugS, dFrz, dPar, dNoPart, dPart, dSlice, dYes, wipeD, i2, d1, d2, d3, startD, List.map_cons, List.map_nil, List.length_cons, List.length_nil, List.cons_append, List.nil_append, List.append_nil, List.getElem?_cons_zero, List.getElem?_cons_succ, List.getElem?_nil, List.replicate, List.set_cons_succ, List.set_cons_zero, Nat.reduceAdd, Nat.reduceSub, Nat.reduceLeDiff, run_eqi, run_nei, run_lt, run_le, run_gt, run_ge, run_addi, run_iaddi, true_and, and_true, Bool.not_eq_true, Bool.not_true, Bool.not_false, if_true, if_false, Bool.false_eq_true, ite_true, ite_false, reduceIte, reduceCtorEq, decide_eq_true_eq, decide_eq_false_iff_not, Option.isSome_some, Option.isSome_none, Bool.true_bne, Bool.false_bne]
    refine ⟨ins_sky (by decide), s, x, st, rfl, small_line ?_, up_same, ?_, ?_⟩
    · rw [List.length_map, List.length_map, List.length_take]; omega
    · rw [take_sn hx, List.map_append, List.map_append]; rfl
    · rw [up_up]
  · rintro acc G' ⟨rfl, rfl⟩
    rw [List.length_map, List.take_length]
    simp only [up_same, dl_up hp, dSeq, dIfS, dTest, dOp, dName, dC, dRet, dLstF, dCons, dNil, dTup, dNext, dAsg, dLstM, gdName, dDrop, dM, dM0, dIf, dAnd, dOr, dNot, dAndV, dOrV, dNotV, dChain, dFz, dRetF, dRetN, dBreak, dCont, dCB, gdTup, gdCons, gdNil, gdSub, dNeg, dAug, dAugS, dFrz, dPar, dNoPart, dPart, dSlice, dYes, wipeD, i2, d1, d2, d3, startD, List.map_cons, List.map_nil, List.length_cons, List.length_nil, List.cons_append, List.nil_append, List.append_nil, List.getElem?_cons_zero, List.getElem?_cons_succ, List.getElem?_nil, List.replicate, List.set_cons_succ, List.set_cons_zero, Nat.reduceAdd, Nat.reduceSub, Nat.reduceLeDiff, run_eqi, run_nei, run_lt, run_le, run_gt, run_ge, run_addi, run_iaddi, true_and, and_true, Bool.not_eq_true, Bool.not_true, Bool.not_false, if_true, if_false, Bool.false_eq_true, ite_true, ite_false, reduceIte, reduceCtorEq, decide_eq_true_eq, decide_eq_false_iff_not, Option.isSome_some, Option.isSome_none, Bool.true_bne, Bool.false_bne]
    exact q
end M
namespace M
open PySem PySem.Spec PyProof.Rows L2 DL
variable [CA]

/-! ### sure_craters -/
def sureL (s : Sk) (st : Int × Int × Int) : List Int := ((placesL s st).mapIdx fun i p => ((i : Int), p)).filterMap fun x => if inC s.cam x.2.1 x.2.2.1 (0 - s.cam.er) then some x.1 else none
def sp_Sky_sure_craters : DRn := fun ds G Q => ∃ (s : Sk) (st : Int × Int × Int), ds = [sD s, e3 st] ∧ s.cs.length ≤ 100 ∧ Q (eL .int (sureL s st)) G
abbrev N_Sky_sure_craters : List Str := ["self", "standing", "places", "number", "x", "y", "size"]
def T_Sky_sure_craters : DTS :=
    (dSeq (dAsg (dMeth CA.Sky "places" sp_Sky_places (dName 0) (dCons (dName 1) dNil)) (gdName 2))
    (dRet (dFz (dLc (diEnum (dCons (dName 2) dNil)) (gdTup (gdCons (gdName 3) (gdCons (gdTup (gdCons (gdName 4) (gdCons (gdName 5) (gdCons (gdName 6) gdNil))) 3) gdNil)) 2) (dTest (dMeth CA.Camera "is_sure" sp_Camera_is_sure (dFld CA.Sky "camera" (dName 0)) (dCons (dName 4) (dCons (dName 5) dNil)))) (dName 3) [3, 4, 5, 6]))))
theorem len_Sky_sure_craters : ∀ ds G Q, sp_Sky_sure_craters ds G Q → ds.length = 2 := fun ds G Q ⟨c, x, e, _⟩ => by rw [e]; rfl
theorem run_Sky_sure_craters : ∀ ds G Q, sp_Sky_sure_craters ds G Q → T_Sky_sure_craters { nx := fun _ G' => Q .non G', rt := Q } (startD N_Sky_sure_craters ds) G := fun ds G Q h => by
  obtain ⟨s, st, rfl, hl, q⟩ := h
  simp only [T_Sky_sure_craters, N_Sky_sure_craters, dMeth, dSeq, dIfS, dTest, dOp, dName, dC, dRet, dLstF, dCons, dNil, dTup, dNext, dAsg, dLstM, gdName, dDrop, dM, dM0, dIf, dAnd, dOr, dNot, dAndV, dOrV, dNotV, dChain, dFz, dRetF, dRetN, dBreak, dCont, dCB, gdTup, gdCons, gdNil, gdSub, dNeg, dAug, dAugS, dFrz, dPar, dNoPart, dPart, dSlice, dYes, wipeD, i2, d1, d2, d3, startD, List.map_cons, List.map_nil, List.length_cons, List.length_nil, List.cons_append, List.nil_append, List.append_nil, List.getElem?_cons_zero, List.getElem?_cons_succ, List.getElem?_nil, List.replicate, List.set_cons_succ, List.set_cons_zero, Nat.reduceAdd, Nat.reduceSub, Nat.reduceLeDiff, run_eqi, run_nei, run_lt, run_le, run_gt, run_ge, run_addi, run_iaddi, true_and, and_true, Bool.not_eq_true, Bool.not_true, Bool.not_false, if_true, if_false, Bool.false_eq_true, ite_true, ite_false, reduceIte, reduceCtorEq, decide_eq_true_eq, decide_eq_false_iff_not, Option.isSome_some, Option.isSome_none, Bool.true_bne, Bool.false_bne]
  refine ⟨ins_sky (by decide), s, st, rfl, hl, ?_⟩
  simp only [dLc, diEnum, eL, dSeq, dIfS, dTest, dOp, dName, dC, dRet, dLstF, dCons, dNil, dTup, dNext, dAsg, dLstM, gdName, dDrop, dM, dM0, dIf, dAnd, dOr, dNot, dAndV, dOrV, dNotV, dChain, dFz, dRetF, dRetN, dBreak, dCont, dCB, gdTup, gdCons, gdNil, gdSub, dNeg, dAug, dAugS, dFrz, dPar, dNoPart, dPart, dSlice, dYes, wipeD, i2, d1, d2, d3, startD, List.map_cons, List.map_nil, List.length_cons, List.length_nil, List.cons_append, List.nil_append, List.append_nil, List.getElem?_cons_zero, List.getElem?_cons_succ, List.getElem?_nil, List.replicate, List.set_cons_succ, List.set_cons_zero, Nat.reduceAdd, Nat.reduceSub, Nat.reduceLeDiff, run_eqi, run_nei, run_lt, run_le, run_gt, run_ge, run_addi, run_iaddi, true_and, and_true, Bool.not_eq_true, Bool.not_true, Bool.not_false, if_true, if_false, Bool.false_eq_true, ite_true, ite_false, reduceIte, reduceCtorEq, decide_eq_true_eq, decide_eq_false_iff_not, Option.isSome_some, Option.isSome_none, Bool.true_bne, Bool.false_bne]
  intro p hp
  refine ⟨fun i acc G' => acc = ((((placesL s st).mapIdx fun i p => ((i : Int), p)).take i).filterMap fun x => if inC s.cam x.2.1 x.2.2.1 (0 - s.cam.er) then some x.1 else none).map .int ∧ acc.length ≤ i ∧ G' = up G p (.lst acc), ⟨rfl, Nat.le_refl _, rfl⟩, ?_, ?_, ?_⟩
  · rintro i acc G' ⟨_, _, rfl⟩
    exact ⟨trivial, up_same⟩
  · rintro i d acc G' hd ⟨ea, hla, rfl⟩
    obtain ⟨z, hz, rfl⟩ := enumL_get hd
    obtain ⟨x, hx, rfl⟩ := get_map hz
    have hi : i < 100 := by
      have := (List.getElem?_eq_some_iff.mp hx).1
      unfold placesL at this
      rw [List.length_map] at this
      omega
    have hx2 : ((placesL s st).mapIdx fun i p => ((i : Int), p))[i]? = some ((i : Int), x) := by rw [List.getElem?_mapIdx, hx]; rfl
    simp only [e3, dMeth, dFld, fl_camera, dSeq, dIfS, dTest, dOp, dName, dC, dRet, dLstF, dCons, dNil, dTup, dNext, dAsg, dLstM, gdName, dDrop, dM, dM0, dIf, dAnd, dOr, dNot, dAndV, dOrV, dNotV, dChain, dFz, dRetF, dRetN, dBreak, dCont, dCB, gdTup, gdCons, gdNil, gdSub, dNeg, dAug, dAugS, dFrz, dPar, dNoPart, dPart, dSlice, dYes, wipeD, i2, d1, d2, d3, startD, List.map_cons, List.map_nil, List.length_cons, List.length_nil, List.cons_append, List.nil_append, List.append_nil, List.getElem?_cons_zero, List.getElem?_cons_succ, List.getElem?_nil, List.replicate, List.set_cons_succ, List.set_cons_zero, Nat.reduceAdd, Nat.reduceSub, Nat.reduceLeDiff, run_eqi, run_nei, run_lt, run_le, run_gt, run_ge, run_addi, run_iaddi, true_and, and_true, Bool.not_eq_true, Bool.not_true, Bool.not_false, if_true, if_false, Bool.false_eq_true, ite_true, ite_false, reduceIte, reduceCtorEq, decide_eq_true_eq, decide_eq_false_iff_not, Option.isSome_some, Option.isSome_none, Bool.true_bne, Bool.false_bne]
    refine ⟨ins_cam (by decide), s.cam, x.1, x.2.1, rfl, ?_⟩
    by_cases h1 : inC s.cam x.1 x.2.1 (0 - s.cam.er)
    · rw [decide_eq_true h1]
      simp only [dSeq, dIfS, dTest, dOp, dName, dC, dRet, dLstF, dCons, dNil, dTup, dNext, dAsg, dLstM, gdName, dDrop, dM, dM0, dIf, dAnd, dOr, dNot, dAndV, dOrV, dNotV, dChain, dFz, dRetF, dRetN, dBreak, dCont, dCB, gdTup, gdCons, gdNil, gdSub, dNeg, dAug, dAugS, dFrz, dPar, dNoPart, dPart, dSlice, dYes, wipeD, i2, d1, d2, d3, startD, List.map_cons, List.map_nil, List.length_cons, List.length_nil, List.cons_append, List.nil_append, List.append_nil, List.getElem?_cons_zero, List.getElem?_cons_succ, List.getElem?_nil, List.replicate, List.set_cons_succ, List.set_cons_zero, Nat.reduceAdd, Nat.reduceSub, Nat.reduceLeDiff, run_eqi, run_nei, run_lt, run_le, run_gt, run_ge, run_addi, run_iaddi, true_and, and_true, Bool.not_eq_true, Bool.not_true, Bool.not_false, if_true, if_false, Bool.false_eq_true, ite_true, ite_false, reduceIte, reduceCtorEq, decide_eq_true_eq, decide_eq_false_iff_not, Option.isSome_some, Option.isSome_none, Bool.true_bne, Bool.false_bne]
      refine ⟨small_line (by omega), up_same, ?_, ?_, ?_⟩
      · rw [take_sn hx2, List.filterMap_append, List.map_append, ← ea]
        simp only [List.filterMap_cons, if_pos h1, List.filterMap_nil, List.map_cons, List.map_nil]
      · rw [List.length_append, List.length_singleton]; omega
      · rw [up_up]
    · rw [decide_eq_false h1]
      simp only [dSeq, dIfS, dTest, dOp, dName, dC, dRet, dLstF, dCons, dNil, dTup, dNext, dAsg, dLstM, gdName, dDrop, dM, dM0, dIf, dAnd, dOr, dNot, dAndV, dOrV, dNotV, dChain, dFz, dRetF, dRetN, dBreak, dCont, dCB, gdTup, gdCons, gdNil, gdSub, dNeg, dAug, dAugS, dFrz, dPar, dNoPart, dPart, dSlice, dYes, wipeD, i2, d1, d2, d3, startD, List.map_cons, List.map_nil, List.length_cons, List.length_nil, List.cons_append, List.nil_append, List.append_nil, List.getElem?_cons_zero, List.getElem?_cons_succ, List.getElem?_nil, List.replicate, List.set_cons_succ, List.set_cons_zero, Nat.reduceAdd, Nat.reduceSub, Nat.reduceLeDiff, run_eqi, run_nei, run_lt, run_le, run_gt, run_ge, run_addi, run_iaddi, true_and, and_true, Bool.not_eq_true, Bool.not_true, Bool.not_false, if_true, if_false, Bool.false_eq_true, ite_true, ite_false, reduceIte, reduceCtorEq, decide_eq_true_eq, decide_eq_false_iff_not, Option.isSome_some, Option.isSome_none, Bool.true_bne, Bool.false_bne]
      refine ⟨?_, by omega⟩
      rw [take_sn hx2, List.filterMap_append, List.map_append, ← ea]
      simp only [List.filterMap_cons, if_neg h1, List.filterMap_nil, List.map_nil, List.append_nil]
  · rintro acc G' ⟨ea, hla, rfl⟩
    rw [enumL_len, List.length_map, show (placesL s st).length = ((placesL s st).mapIdx fun i p => ((i : Int), p)).length by rw [List.length_mapIdx], List.take_length] at ea
    simp only [up_same, dl_up hp, dSeq, dIfS, dTest, dOp, dName, dC, dRet, dLstF, dCons, dNil, dTup, dNext, dAsg, dLstM, gdName, dDrop, dM, dM0, dIf, dAnd, dOr, dNot, dAndV, dOrV, dNotV, dChain, dFz, dRetF, dRetN, dBreak, dCont, dCB, gdTup, gdCons, gdNil, gdSub, dNeg, dAug, dAugS, dFrz, dPar, dNoPart, dPart, dSlice, dYes, wipeD, i2, d1, d2, d3, startD, List.map_cons, List.map_nil, List.length_cons, List.length_nil, List.cons_append, List.nil_append, List.append_nil, List.getElem?_cons_zero, List.getElem?_cons_succ, List.getElem?_nil, List.replicate, List.set_cons_succ, List.set_cons_zero, Nat.reduceAdd, Nat.reduceSub, Nat.reduceLeDiff, run_eqi, run_nei, run_lt, run_le, run_gt, run_ge, run_addi, run_iaddi, true_and, and_true, Bool.not_eq_true, Bool.not_true, Bool.not_false, if_true, if_false, Bool.false_eq_true, ite_true, ite_false, reduceIte, reduceCtorEq, decide_eq_true_eq, decide_eq_false_iff_not, Option.isSome_some, Option.isSome_none, Bool.true_bne, Bool.false_bne]
    rw [ea]
    exact q
/-! ### check_picture -/
def okPic (c : Cam) (pic : List (Int × Int × Int)) : Prop := ∀ p ∈ pic, okPt 0 1000 p ∧ inC c p.1 p.2.1 0
def sp_Camera_check_picture : DRn := fun ds G Q => ∃ (c : Cam) (pic : List (Int × Int × Int)), ds = [cD c, eT e3 pic] ∧ okPic c pic ∧ Q .non G
abbrev N_Camera_check_picture : List Str := ["self", "picture", "number", "point"]
def T_Camera_check_picture : DTS :=
    (dSeq (dIfS (dNot (dTest (dCB (dIsi isT) (dCons (dName 1) (dCons (dC (.ty "tuple")) dNil)))))
    dNever
    dNext)
    (dFor (diEnum (dCons (dName 1) dNil)) (gdTup (gdCons (gdName 2) (gdCons (gdName 3) gdNil)) 2)
    (dIfS (dOr (dNot (dTest (dCB sp_is_point (dCons (dName 3) (dCons (dC (.int 0)) (dCons (dC (.int 1000)) dNil)))))) (dNot (dTest (dMeth CA.Camera "is_within" sp_Camera_is_within (dName 0) (dCons (dOp dIx (dName 3) (dC (.int 0))) (dCons (dOp dIx (dName 3) (dC (.int 1))) (dCons (dC (.int 0)) dNil)))))))
    dNever
    dNext)))
theorem len_Camera_check_picture : ∀ ds G Q, sp_Camera_check_picture ds G Q → ds.length = 2 := fun ds G Q ⟨c, x, e, _⟩ => by rw [e]; rfl
theorem run_Camera_check_picture : ∀ ds G Q, sp_Camera_check_picture ds G Q → T_Camera_check_picture { nx := fun _ G' => Q .non G', rt := Q } (startD N_Camera_check_picture ds) G := fun ds G Q h => by
  obtain ⟨c, pic, rfl, hok, q⟩ := h
  simp only [T_Camera_check_picture, N_Camera_check_picture, eT, isi_tup_tup, dFor, diEnum, dMeth, dSeq, dIfS, dTest, dOp, dName, dC, dRet, dLstF, dCons, dNil, dTup, dNext, dAsg, dLstM, gdName, dDrop, dM, dM0, dIf, dAnd, dOr, dNot, dAndV, dOrV, dNotV, dChain, dFz, dRetF, dRetN, dBreak, dCont, dCB, gdTup, gdCons, gdNil, gdSub, dNeg, dAug, dAugS, dFrz, dPar, dNoPart, dPart, dSlice, dYes, wipeD, i2, d1, d2, d3, startD, List.map_cons, List.map_nil, List.length_cons, List.length_nil, List.cons_append, List.nil_append, List.append_nil, List.getElem?_cons_zero, List.getElem?_cons_succ, List.getElem?_nil, List.replicate, List.set_cons_succ, List.set_cons_zero, Nat.reduceAdd, Nat.reduceSub, Nat.reduceLeDiff, run_eqi, run_nei, run_lt, run_le, run_gt, run_ge, run_addi, run_iaddi, true_and, and_true, Bool.not_eq_true, Bool.not_true, Bool.not_false, if_true, if_false, Bool.false_eq_true, ite_true, ite_false, reduceIte, reduceCtorEq, decide_eq_true_eq, decide_eq_false_iff_not, Option.isSome_some, Option.isSome_none, Bool.true_bne, Bool.false_bne]
  refine ⟨fun i η G' => ∃ nu po, η = [some (cD c), some (eT e3 pic), nu, po] ∧ G' = G, ⟨none, none, rfl, rfl⟩, fun _ _ _ _ => trivial, ?_, ?_⟩
  · rintro i d η G' hd ⟨nu, po, rfl, rfl⟩
    obtain ⟨z, hz, rfl⟩ := enumL_get hd
    obtain ⟨p, hp, rfl⟩ := get_map hz
    obtain ⟨h1, h2⟩ := hok p (List.mem_of_getElem? hp)
    simp only [dSeq, dIfS, dTest, dOp, dName, dC, dRet, dLstF, dCons, dNil, dTup, dNext, dAsg, dLstM, gdName, dDrop, dM, dM0, dIf, dAnd, dOr, dNot, dAndV, dOrV, dNotV, dChain, dFz, dRetF, dRetN, dBreak, dCont, dCB, gdTup, gdCons, gdNil, gdSub, dNeg, dAug, dAugS, dFrz, dPar, dNoPart, dPart, dSlice, dYes, wipeD, i2, d1, d2, d3, startD, List.map_cons, List.map_nil, List.length_cons, List.length_nil, List.cons_append, List.nil_append, List.append_nil, List.getElem?_cons_zero, List.getElem?_cons_succ, List.getElem?_nil, List.replicate, List.set_cons_succ, List.set_cons_zero, Nat.reduceAdd, Nat.reduceSub, Nat.reduceLeDiff, run_eqi, run_nei, run_lt, run_le, run_gt, run_ge, run_addi, run_iaddi, true_and, and_true, Bool.not_eq_true, Bool.not_true, Bool.not_false, if_true, if_false, Bool.false_eq_true, ite_true, ite_false, reduceIte, reduceCtorEq, decide_eq_true_eq, decide_eq_false_iff_not, Option.isSome_some, Option.isSome_none, Bool.true_bne, Bool.false_bne]
    refine ⟨p, _, _, rfl, rfl, rfl, ?_⟩
    rw [decide_eq_true h1]
    simp only [e3, dSeq, dIfS, dTest, dOp, dName, dC, dRet, dLstF, dCons, dNil, dTup, dNext, dAsg, dLstM, gdName, dDrop, dM, dM0, dIf, dAnd, dOr, dNot, dAndV, dOrV, dNotV, dChain, dFz, dRetF, dRetN, dBreak, dCont, dCB, gdTup, gdCons, gdNil, gdSub, dNeg, dAug, dAugS, dFrz, dPar, dNoPart, dPart, dSlice, dYes, wipeD, i2, d1, d2, d3, startD, List.map_cons, List.map_nil, List.length_cons, List.length_nil, List.cons_append, List.nil_append, List.append_nil, List.getElem?_cons_zero, List.getElem?_cons_succ, List.getElem?_nil, List.replicate, List.set_cons_succ, List.set_cons_zero, Nat.reduceAdd, Nat.reduceSub, Nat.reduceLeDiff, run_eqi, run_nei, run_lt, run_le, run_gt, run_ge, run_addi, run_iaddi, true_and, and_true, Bool.not_eq_true, Bool.not_true, Bool.not_false, if_true, if_false, Bool.false_eq_true, ite_true, ite_false, reduceIte, reduceCtorEq, decide_eq_true_eq, decide_eq_false_iff_not, Option.isSome_some, Option.isSome_none, Bool.true_bne, Bool.false_bne]
    refine ⟨ins_cam (by decide), run_ix (by decide) rfl ?_⟩
    refine run_ix (by decide) rfl ⟨c, p.1, p.2.1, 0, rfl, ?_⟩
    rw [decide_eq_true h2]
    simp only [dSeq, dIfS, dTest, dOp, dName, dC, dRet, dLstF, dCons, dNil, dTup, dNext, dAsg, dLstM, gdName, dDrop, dM, dM0, dIf, dAnd, dOr, dNot, dAndV, dOrV, dNotV, dChain, dFz, dRetF, dRetN, dBreak, dCont, dCB, gdTup, gdCons, gdNil, gdSub, dNeg, dAug, dAugS, dFrz, dPar, dNoPart, dPart, dSlice, dYes, wipeD, i2, d1, d2, d3, startD, List.map_cons, List.map_nil, List.length_cons, List.length_nil, List.cons_append, List.nil_append, List.append_nil, List.getElem?_cons_zero, List.getElem?_cons_succ, List.getElem?_nil, List.replicate, List.set_cons_succ, List.set_cons_zero, Nat.reduceAdd, Nat.reduceSub, Nat.reduceLeDiff, run_eqi, run_nei, run_lt, run_le, run_gt, run_ge, run_addi, run_iaddi, true_and, and_true, Bool.not_eq_true, Bool.not_true, Bool.not_false, if_true, if_false, Bool.false_eq_true, ite_true, ite_false, reduceIte, reduceCtorEq, decide_eq_true_eq, decide_eq_false_iff_not, Option.isSome_some, Option.isSome_none, Bool.true_bne, Bool.false_bne]
    exact ⟨_, (by repeat (first | exact Le.nil | apply Le.keep | apply Le.drop)), _, _, rfl, rfl⟩
  · rintro η G' ⟨nu, po, rfl, rfl⟩
    exact q
end M
namespace M
open PySem PySem.Spec PyProof.Rows L2 DL
variable [CA]

/-! ### standings -/
/-- a sky such as the laws draw -/
structure OkSk (s : Sk) : Prop where
  cs : s.cs.length ≤ 100
  cb : ∀ c ∈ s.cs, okPt (0 - 1000000) 1000000 c
  cam : okCam s.cam
  tl : s.tu.length ≤ 4
  b1 : -1000 ≤ s.ar.1 ∧ s.ar.1 ≤ s.ar.2.1 ∧ s.ar.2.1 ≤ s.ar.1 + 99
  b2 : -1000 ≤ s.ar.2.2.1 ∧ s.ar.2.2.1 ≤ s.ar.2.2.2 ∧ s.ar.2.2.2 ≤ s.ar.2.2.1 + 99
  u1 : s.ar.1 ≤ 1000
  u2 : s.ar.2.2.1 ≤ 1000
def rowS (s : Sk) (t x : Int) : List (Int × Int × Int) := (rangeL s.ar.2.2.1 (s.ar.2.2.2 + 1)).map fun y => (t, x, y)
def colS (s : Sk) (t : Int) : List (Int × Int × Int) := (rangeL s.ar.1 (s.ar.2.1 + 1)).flatMap (rowS s t)
def standL (s : Sk) : List (Int × Int × Int) := s.tu.flatMap (colS s)
theorem row_len {s : Sk} (h : OkSk s) (t x : Int) : (rowS s t x).length ≤ 100 := by
  unfold rowS; rw [List.length_map, len_range]; have := h.b2; omega
theorem fm_take {α β : Type} {l : List α} {f : α → List β} {i : Nat} {x : α} (e : l[i]? = some x) : (l.take (i + 1)).flatMap f = (l.take i).flatMap f ++ f x := by
  rw [take_sn e, List.flatMap_append]; simp
theorem col_len {s : Sk} (h : OkSk s) (t : Int) (j : Nat) : (((rangeL s.ar.1 (s.ar.2.1 + 1)).take j).flatMap (rowS s t)).length ≤ 10000 := by
  refine Nat.le_trans (len_flatMap fun x _ => row_len h t x) ?_
  rw [List.length_take, len_range]
  have := h.b1
  omega
theorem stand_len {s : Sk} (h : OkSk s) (i : Nat) : ((s.tu.take i).flatMap (colS s)).length ≤ 40000 := by
  refine Nat.le_trans (len_flatMap (B := 10000) fun t _ => ?_) ?_
  · have := col_len h t (rangeL s.ar.1 (s.ar.2.1 + 1)).length
    rw [List.take_length] at this
    exact this
  · rw [List.length_take]; have := h.tl; omega
def sp_Sky_standings : DRn := fun ds G Q => ∃ s : Sk, ds = [sD s] ∧ OkSk s ∧ Q (eT e3 (standL s)) G
abbrev N_Sky_standings : List Str := ["self", "found", "turn", "first", "second"]
def T_Sky_standings : DTS :=
    (dSeq (dAsg (dLstM dNil) (gdName 1))
    (dSeq (dFor (diSeq (dFld CA.Sky "turns" (dName 0))) (gdName 2)
    (dFor (diRange2 (dCons (dOp dIx (dFld CA.Sky "area" (dName 0)) (dC (.int 0))) (dCons (dOp dAdd (dOp dIx (dFld CA.Sky "area" (dName 0)) (dC (.int 1))) (dC (.int 1))) dNil))) (gdName 3)
    (dFor (diRange2 (dCons (dOp dIx (dFld CA.Sky "area" (dName 0)) (dC (.int 2))) (dCons (dOp dAdd (dOp dIx (dFld CA.Sky "area" (dName 0)) (dC (.int 3))) (dC (.int 1))) dNil))) (gdName 4)
    (dDrop (dM "list" dAppend (dName 1) (dCons (dTup (dCons (dName 2) (dCons (dName 3) (dCons (dName 4) dNil)))) dNil))))))
    (dFrz 1 (dRet (dCB dTuple (dCons (dName 1) dNil))))))
theorem len_Sky_standings : ∀ ds G Q, sp_Sky_standings ds G Q → ds.length = 1 := fun ds G Q ⟨c, e, _⟩ => by rw [e]; rfl
theorem run_ar {s : Sk} {G : DHp} {Q : DVK} {i : Int} {z : Int} (h0 : 0 ≤ i) (h : [D.int s.ar.1, .int s.ar.2.1, .int s.ar.2.2.1, .int s.ar.2.2.2][i.toNat]? = some (.int z)) (q : Q (.int z) G) : dIx (e4 s.ar) (.int i) G Q := run_ix h0 h q
theorem run_Sky_standings : ∀ ds G Q, sp_Sky_standings ds G Q → T_Sky_standings { nx := fun _ G' => Q .non G', rt := Q } (startD N_Sky_standings ds) G := fun ds G Q h => by
  obtain ⟨s, rfl, ok, q⟩ := h
  simp only [T_Sky_standings, N_Sky_standings, dSeq, dIfS, dTest, dOp, dName, dC, dRet, dLstF, dCons, dNil, dTup, dNext, dAsg, dLstM, gdName, dDrop, dM, dM0, dIf, dAnd, dOr, dNot, dAndV, dOrV, dNotV, dChain, dFz, dRetF, dRetN, dBreak, dCont, dCB, gdTup, gdCons, gdNil, gdSub, dNeg, dAug, dAugS, dFrz, dPar, dNoPart, dPart, dSlice, dYes, wipeD, i2, d1, d2, d3, startD, List.map_cons, List.map_nil, List.length_cons, List.length_nil, List.cons_append, List.nil_append, List.append_nil, List.getElem?_cons_zero, List.getElem?_cons_succ, List.getElem?_nil, List.replicate, List.set_cons_succ, List.set_cons_zero, Nat.reduceAdd, Nat.reduceSub, Nat.reduceLeDiff, run_eqi, run_nei, run_lt, run_le, run_gt, run_ge, run_addi, run_iaddi, true_and, and_true, Bool.not_eq_true, Bool.not_true, Bool.not_false, if_true, if_false, Bool.false_eq_true, ite_true, ite_false, reduceIte, reduceCtorEq, decide_eq_true_eq, decide_eq_false_iff_not, Option.isSome_some, Option.isSome_none, Bool.true_bne, Bool.false_bne]
  intro p hp
  simp only [dFor, diSeq, dFld, fl_turns, eT, dSeq, dIfS, dTest, dOp, dName, dC, dRet, dLstF, dCons, dNil, dTup, dNext, dAsg, dLstM, gdName, dDrop, dM, dM0, dIf, dAnd, dOr, dNot, dAndV, dOrV, dNotV, dChain, dFz, dRetF, dRetN, dBreak, dCont, dCB, gdTup, gdCons, gdNil, gdSub, dNeg, dAug, dAugS, dFrz, dPar, dNoPart, dPart, dSlice, dYes, wipeD, i2, d1, d2, d3, startD, List.map_cons, List.map_nil, List.length_cons, List.length_nil, List.cons_append, List.nil_append, List.append_nil, List.getElem?_cons_zero, List.getElem?_cons_succ, List.getElem?_nil, List.replicate, List.set_cons_succ, List.set_cons_zero, Nat.reduceAdd, Nat.reduceSub, Nat.reduceLeDiff, run_eqi, run_nei, run_lt, run_le, run_gt, run_ge, run_addi, run_iaddi, true_and, and_true, Bool.not_eq_true, Bool.not_true, Bool.not_false, if_true, if_false, Bool.false_eq_true, ite_true, ite_false, reduceIte, reduceCtorEq, decide_eq_true_eq, decide_eq_false_iff_not, Option.isSome_some, Option.isSome_none, Bool.true_bne, Bool.false_bne]
  refine ⟨fun i η G' => ∃ a b c, η = [some (sD s), some (.ref p), a, b, c] ∧ G' = up G p (.lst (((s.tu.take i).flatMap (colS s)).map e3)), ⟨none, none, none, rfl, rfl⟩, fun _ _ _ _ => trivial, ?_, ?_⟩
  · rintro i d η G' hd ⟨a, b, c, rfl, rfl⟩
    obtain ⟨t, ht, rfl⟩ := get_map hd
    simp only [diRange2, dFld, fl_area, dSeq, dIfS, dTest, dOp, dName, dC, dRet, dLstF, dCons, dNil, dTup, dNext, dAsg, dLstM, gdName, dDrop, dM, dM0, dIf, dAnd, dOr, dNot, dAndV, dOrV, dNotV, dChain, dFz, dRetF, dRetN, dBreak, dCont, dCB, gdTup, gdCons, gdNil, gdSub, dNeg, dAug, dAugS, dFrz, dPar, dNoPart, dPart, dSlice, dYes, wipeD, i2, d1, d2, d3, startD, List.map_cons, List.map_nil, List.length_cons, List.length_nil, List.cons_append, List.nil_append, List.append_nil, List.getElem?_cons_zero, List.getElem?_cons_succ, List.getElem?_nil, List.replicate, List.set_cons_succ, List.set_cons_zero, Nat.reduceAdd, Nat.reduceSub, Nat.reduceLeDiff, run_eqi, run_nei, run_lt, run_le, run_gt, run_ge, run_addi, run_iaddi, true_and, and_true, Bool.not_eq_true, Bool.not_true, Bool.not_false, if_true, if_false, Bool.false_eq_true, ite_true, ite_false, reduceIte, reduceCtorEq, decide_eq_true_eq, decide_eq_false_iff_not, Option.isSome_some, Option.isSome_none, Bool.true_bne, Bool.false_bne]
    refine run_ar (by decide) rfl (run_ar (by decide) rfl ?_)
    simp only [dSeq, dIfS, dTest, dOp, dName, dC, dRet, dLstF, dCons, dNil, dTup, dNext, dAsg, dLstM, gdName, dDrop, dM, dM0, dIf, dAnd, dOr, dNot, dAndV, dOrV, dNotV, dChain, dFz, dRetF, dRetN, dBreak, dCont, dCB, gdTup, gdCons, gdNil, gdSub, dNeg, dAug, dAugS, dFrz, dPar, dNoPart, dPart, dSlice, dYes, wipeD, i2, d1, d2, d3, startD, List.map_cons, List.map_nil, List.length_cons, List.length_nil, List.cons_append, List.nil_append, List.append_nil, List.getElem?_cons_zero, List.getElem?_cons_succ, List.getElem?_nil, List.replicate, List.set_cons_succ, List.set_cons_zero, Nat.reduceAdd, Nat.reduceSub, Nat.reduceLeDiff, run_eqi, run_nei, run_lt, run_le, run_gt, run_ge, run_addi, run_iaddi, true_and, and_true, Bool.not_eq_true, Bool.not_true, Bool.not_false, if_true, if_false, Bool.false_eq_true, ite_true, ite_false, reduceIte, reduceCtorEq, decide_eq_true_eq, decide_eq_false_iff_not, Option.isSome_some, Option.isSome_none, Bool.true_bne, Bool.false_bne]
    have hb := ok.b1; have hb2 := ok.b2; have hu := ok.u1; have hu2 := ok.u2
    refine ⟨⟨by omega, by omega, by omega, by omega⟩, fun j η G' => ∃ b c, η = [some (sD s), some (.ref p), some (.int t), b, c] ∧ G' = up G p (.lst (((s.tu.take i).flatMap (colS s) ++ ((rangeL s.ar.1 (s.ar.2.1 + 1)).take j).flatMap (rowS s t)).map e3)), ⟨b, c, rfl, by simp⟩, fun _ _ _ _ => trivial, ?_, ?_⟩
    · rintro j d η G' hd ⟨b, c, rfl, rfl⟩
      obtain ⟨x, hx, rfl⟩ := get_map hd
      simp only [diRange2, dFld, fl_area, dSeq, dIfS, dTest, dOp, dName, dC, dRet, dLstF, dCons, dNil, dTup, dNext, dAsg, dLstM, gdName, dDrop, dM, dM0, dIf, dAnd, dOr, dNot, dAndV, dOrV, dNotV, dChain, dFz, dRetF, dRetN, dBreak, dCont, dCB, gdTup, gdCons, gdNil, gdSub, dNeg, dAug, dAugS, dFrz, dPar, dNoPart, dPart, dSlice, dYes, wipeD, i2, d1, d2, d3, startD, List.map_cons, List.map_nil, List.length_cons, List.length_nil, List.cons_append, List.nil_append, List.append_nil, List.getElem?_cons_zero, List.getElem?_cons_succ, List.getElem?_nil, List.replicate, List.set_cons_succ, List.set_cons_zero, Nat.reduceAdd, Nat.reduceSub, Nat.reduceLeDiff, run_eqi, run_nei, run_lt, run_le, run_gt, run_ge, run_addi, run_iaddi, true_and, and_true, Bool.not_eq_true, Bool.not_true, Bool.not_false, if_true, if_false, Bool.false_eq_true, ite_true, ite_false, reduceIte, reduceCtorEq, decide_eq_true_eq, decide_eq_false_iff_not, Option.isSome_some, Option.isSome_none, Bool.true_bne, Bool.false_bne]
      refine run_ar (by decide) rfl (run_ar (by decide) rfl ?_)
      simp only [dSeq, dIfS, dTest, dOp, dName, dC, dRet, dLstF, dCons, dNil, dTup, dNext, dAsg, dLstM, gdName, dDrop, dM, dM0, dIf, dAnd, dOr, dNot, dAndV, dOrV, dNotV, dChain, dFz, dRetF, dRetN, dBreak, dCont, dCB, gdTup, gdCons, gdNil, gdSub, dNeg, dAug, dAugS, dFrz, dPar, dNoPart, dPart, dSlice, dYes, wipeD, i2, d1, d2, d3, startD, List.map_cons, List.map_nil, List.length_cons, List.length_nil, List.cons_append, List.nil_append, List.append_nil, List.getElem?_cons_zero, List.getElem?_cons_succ, List.getElem?_nil, List.replicate, List.set_cons_succ, List.set_cons_zero, Nat.reduceAdd, Nat.reduceSub, Nat.reduceLeDiff, run_eqi, run_nei, run_lt, run_le, run_gt, run_ge, run_addi, run_iaddi, true_and, and_true, Bool.not_eq_true, Bool.not_true, Bool.not_false, if_true, if_false, Bool.false_eq_true, ite_true, ite_false, reduceIte, reduceCtorEq, decide_eq_true_eq, decide_eq_false_iff_not, Option.isSome_some, Option.isSome_none, Bool.true_bne, Bool.false_bne]
      refine ⟨⟨by omega, by omega, by omega, by omega⟩, fun k η G' => ∃ c, η = [some (sD s), some (.ref p), some (.int t), some (.int x), c] ∧ G' = up G p (.lst ((((s.tu.take i).flatMap (colS s) ++ ((rangeL s.ar.1 (s.ar.2.1 + 1)).take j).flatMap (rowS s t)) ++ ((rangeL s.ar.2.2.1 (s.ar.2.2.2 + 1)).take k).map fun y => (t, x, y)).map e3)), ⟨c, rfl, by simp⟩, fun _ _ _ _ => trivial, ?_, ?_⟩
      · rintro k d η G' hd ⟨c, rfl, rfl⟩
        obtain ⟨y, hy, rfl⟩ := get_map hd
        have l1 := stand_len ok i
        have l2 := col_len ok t j
        simp only [dSeq, dIfS, dTest, dOp, dName, dC, dRet, dLstF, dCons, dNil, dTup, dNext, dAsg, dLstM, gdName, dDrop, dM, dM0, dIf, dAnd, dOr, dNot, dAndV, dOrV, dNotV, dChain, dFz, dRetF, dRetN, dBreak, dCont, dCB, gdTup, gdCons, gdNil, gdSub, dNeg, dAug, dAugS, dFrz, dPar, dNoPart, dPart, dSlice, dYes, wipeD, i2, d1, d2, d3, startD, List.map_cons, List.map_nil, List.length_cons, List.length_nil, List.cons_append, List.nil_append, List.append_nil, List.getElem?_cons_zero, List.getElem?_cons_succ, List.getElem?_nil, List.replicate, List.set_cons_succ, List.set_cons_zero, Nat.reduceAdd, Nat.reduceSub, Nat.reduceLeDiff, run_eqi, run_nei, run_lt, run_le, run_gt, run_ge, run_addi, run_iaddi, true_and, and_true, Bool.not_eq_true, Bool.not_true, Bool.not_false, if_true, if_false, Bool.false_eq_true, ite_true, ite_false, reduceIte, reduceCtorEq, decide_eq_true_eq, decide_eq_false_iff_not, Option.isSome_some, Option.isSome_none, Bool.true_bne, Bool.false_bne]
        refine run_app up_same (small_line ?_) ?_
        · rw [List.length_map, List.length_append, List.length_append, List.length_map, List.length_take, len_range]; omega
        · rw [up_up]
          refine ⟨_, (by repeat (first | exact Le.nil | apply Le.keep | apply Le.drop)), _, rfl, ?_⟩
          rw [take_sn hy]
          simp only [List.map_append, List.append_assoc, List.map_cons, List.map_nil]
          rfl
      · rintro η G' ⟨c, rfl, rfl⟩
        rw [List.length_map, List.take_length]
        refine ⟨_, (by repeat (first | exact Le.nil | apply Le.keep | apply Le.drop)), _, _, rfl, ?_⟩
        rw [fm_take hx, List.append_assoc]
        rfl
    · rintro η G' ⟨b, c, rfl, rfl⟩
      rw [List.length_map, List.take_length]
      refine ⟨_, (by repeat (first | exact Le.nil | apply Le.keep | apply Le.drop)), _, _, _, rfl, ?_⟩
      rw [fm_take ht]
      rfl
  · rintro η G' ⟨a, b, c, rfl, rfl⟩
    rw [List.length_map, List.take_length]
    simp only [up_same, dl_up hp, dSeq, dIfS, dTest, dOp, dName, dC, dRet, dLstF, dCons, dNil, dTup, dNext, dAsg, dLstM, gdName, dDrop, dM, dM0, dIf, dAnd, dOr, dNot, dAndV, dOrV, dNotV, dChain, dFz, dRetF, dRetN, dBreak, dCont, dCB, gdTup, gdCons, gdNil, gdSub, dNeg, dAug, dAugS, dFrz, dPar, dNoPart, dPart, dSlice, dYes, wipeD, i2, d1, d2, d3, startD, List.map_cons, List.map_nil, List.length_cons, List.length_nil, List.cons_append, List.nil_append, List.append_nil, List.getElem?_cons_zero, List.getElem?_cons_succ, List.getElem?_nil, List.replicate, List.set_cons_succ, List.set_cons_zero, Nat.reduceAdd, Nat.reduceSub, Nat.reduceLeDiff, run_eqi, run_nei, run_lt, run_le, run_gt, run_ge, run_addi, run_iaddi, true_and, and_true, Bool.not_eq_true, Bool.not_true, Bool.not_false, if_true, if_false, Bool.false_eq_true, ite_true, ite_false, reduceIte, reduceCtorEq, decide_eq_true_eq, decide_eq_false_iff_not, Option.isSome_some, Option.isSome_none, Bool.true_bne, Bool.false_bne]
    rw [run_tup (ds := (standL s).map e3) rfl]
    exact q
end M
namespace M
open PySem PySem.Spec PyProof.Rows L2 DL
variable [CA]

/-! ### lists tracked one by one -/
def upsI (G : DHp) : List (Addr × List Int) → DHp
  | [] => G
  | x :: l => up (upsI G l) x.1 (.lst (x.2.map .int))
theorem upsI_none {G : DHp} {a : Addr} : ∀ {l : List (Addr × List Int)}, a ∉ l.map (·.1) → upsI G l a = G a
  | [], _ => rfl
  | x :: l, h => by
    rw [List.map_cons, List.mem_cons, not_or] at h
    show up (upsI G l) x.1 _ a = _
    rw [up_ne h.1, upsI_none h.2]
theorem upsI_get {G : DHp} {a : Addr} {xs : List Int} : ∀ {l : List (Addr × List Int)} {k : Nat}, (l.map (·.1)).Nodup → l[k]? = some (a, xs) → upsI G l a = some (.lst (xs.map .int))
  | [], _, _, h => by simp at h
  | x :: l, 0, _, h => by
    simp at h
    subst h
    exact up_same
  | x :: l, k + 1, nd, h => by
    rw [List.map_cons, List.nodup_cons] at nd
    rw [List.getElem?_cons_succ] at h
    show up (upsI G l) x.1 _ a = _
    rw [up_ne (fun e => nd.1 (by rw [← e]; exact List.mem_map.mpr ⟨_, List.mem_of_getElem? h, rfl⟩)), upsI_get nd.2 h]
theorem upsI_snoc {G : DHp} {a : Addr} {xs : List Int} : ∀ {l : List (Addr × List Int)}, a ∉ l.map (·.1) → up (upsI G l) a (.lst (xs.map .int)) = upsI G (l ++ [(a, xs)])
  | [], _ => rfl
  | x :: l, h => by
    rw [List.map_cons, List.mem_cons, not_or] at h
    show up (up (upsI G l) x.1 _) a _ = up (upsI G (l ++ [(a, xs)])) x.1 _
    rw [up_comm (Ne.symm h.1), upsI_snoc h.2]
theorem upsI_set {G : DHp} {a : Addr} {xs ys : List Int} : ∀ {l : List (Addr × List Int)} {k : Nat}, (l.map (·.1)).Nodup → l[k]? = some (a, xs) → up (upsI G l) a (.lst (ys.map .int)) = upsI G (l.set k (a, ys))
  | [], _, _, h => by simp at h
  | x :: l, 0, _, h => by
    simp at h
    subst h
    exact up_up
  | x :: l, k + 1, nd, h => by
    rw [List.map_cons, List.nodup_cons] at nd
    rw [List.getElem?_cons_succ] at h
    have ne : x.1 ≠ a := fun e => nd.1 (by rw [e]; exact List.mem_map.mpr ⟨_, List.mem_of_getElem? h, rfl⟩)
    show up (up (upsI G l) x.1 _) a _ = up (upsI G (l.set k (a, ys))) x.1 _
    rw [up_comm ne, upsI_set nd.2 h]
theorem upsI_frz {G : DHp} : ∀ {l : List (Addr × List Int)}, (l.map (·.1)).Nodup → (∀ a ∈ l.map (·.1), G a = none) → frL (l.map fun x => D.ref x.1) (upsI G l) = some (l.map fun x => eL .int x.2, G)
  | [], _, _ => rfl
  | x :: l, nd, h => by
    rw [List.map_cons, List.nodup_cons] at nd
    have h0 : upsI G l x.1 = none := by rw [upsI_none nd.1]; exact h _ (by simp)
    rw [List.map_cons, frL]
    show (match up (upsI G l) x.1 (.lst (x.2.map .int)) x.1 with | some (.lst es) => _ | _ => _) = _
    rw [up_same]
    dsimp only
    rw [show dl (upsI G (x :: l)) x.1 = upsI G l from dl_up h0, upsI_frz nd.2 fun a ha => h a (by simp [ha])]
    rfl
/-! ### turned_round -/
/-- who of the pairs has a -/
def sel (P : List (Int × Int)) (a : Int) : List Int := (P.filter fun p => decide (p.2 = a)).map (·.1)
def prsL (N : List (List Int)) : List (Int × Int) := (N.mapIdx fun k r => r.map fun o => ((k : Int), o)).flatten
def bkN (N : List (List Int)) (M : Int) : List (List Int) := (rangeL 0 M).map (sel (prsL N))
theorem prs_take {N : List (List Int)} {i : Nat} {r : List Int} (h : N[i]? = some r) : prsL (N.take (i + 1)) = prsL (N.take i) ++ r.map fun o => ((i : Int), o) := by
  unfold prsL
  have hi := (List.getElem?_eq_some_iff.mp h).1
  rw [take_sn h, List.mapIdx_concat, List.flatten_concat, List.length_take, Nat.min_eq_left (Nat.le_of_lt hi)]
theorem prs_mem {N : List (List Int)} {i a : Int} : (i, a) ∈ prsL N ↔ InR N i ∧ a ∈ nxt N i := by
  unfold prsL
  rw [List.mem_flatten]
  constructor
  · rintro ⟨l, hl, h⟩
    rw [List.mem_mapIdx] at hl
    obtain ⟨k, hk, rfl⟩ := hl
    obtain ⟨o, ho, e⟩ := List.mem_map.mp h
    cases e
    refine ⟨⟨by omega, by omega⟩, ?_⟩
    unfold nxt
    rw [Int.toNat_natCast, List.getElem?_eq_getElem hk]
    exact ho
  · rintro ⟨⟨h0, h1⟩, h2⟩
    have hk : i.toNat < N.length := by omega
    unfold nxt at h2
    rw [List.getElem?_eq_getElem hk] at h2
    exact ⟨_, List.mem_mapIdx.mpr ⟨i.toNat, hk, rfl⟩, List.mem_map.mpr ⟨a, h2, by rw [Int.toNat_of_nonneg h0]⟩⟩
theorem sel_mem {P : List (Int × Int)} {a i : Int} : i ∈ sel P a ↔ (i, a) ∈ P := by
  unfold sel
  rw [List.mem_map]
  constructor
  · rintro ⟨p, hp, rfl⟩
    rw [List.mem_filter, decide_eq_true_eq] at hp
    rw [← hp.2]
    exact hp.1
  · intro h
    exact ⟨_, List.mem_filter.mpr ⟨h, by simp⟩, rfl⟩
theorem bk_len (N : List (List Int)) (M : Int) : (bkN N M).length = M.toNat := by unfold bkN; rw [List.length_map, len_range]; simp
theorem range_get {lo hi : Int} {i : Nat} {a : Int} (h : (rangeL lo hi)[i]? = some a) : a = lo + i ∧ a < hi := by
  unfold rangeL at h
  rw [List.getElem?_map] at h
  cases e : (List.range (hi - lo).toNat)[i]? with
  | none => rw [e] at h; cases h
  | some k =>
    rw [e] at h
    obtain ⟨hk, ek⟩ := List.getElem?_eq_some_iff.mp e
    rw [List.getElem_range] at ek
    rw [List.length_range] at hk
    simp at h
    omega
theorem range_at {lo hi : Int} {i : Nat} (h : (i : Int) < hi - lo) : (rangeL lo hi)[i]? = some (lo + i) := by
  unfold rangeL
  rw [List.getElem?_map, List.getElem?_range (by omega)]
  rfl
theorem bk_mem {N : List (List Int)} {M i a : Int} (h0 : 0 ≤ a) (h1 : a < M) : i ∈ nxt (bkN N M) a ↔ InR N i ∧ a ∈ nxt N i := by
  rw [← prs_mem, ← sel_mem]
  unfold nxt bkN
  rw [List.getElem?_map, range_at (by omega), show (0 : Int) + (a.toNat : Int) = a by omega]
  rfl
theorem sel_snoc (P : List (Int × Int)) (i o a : Int) : sel (P ++ [(i, o)]) a = if o = a then sel P a ++ [i] else sel P a := by
  unfold sel
  rw [List.filter_append, List.map_append]
  by_cases h : o = a
  · rw [if_pos h]; simp [h]
  · rw [if_neg h]; simp [h]
theorem sel_len (P : List (Int × Int)) (a : Int) : (sel P a).length ≤ P.length := by
  unfold sel; rw [List.length_map]; exact List.length_filter_le _ _
theorem prs_len {N : List (List Int)} {B : Nat} (h : ∀ r ∈ N, r.length ≤ B) : (prsL N).length ≤ N.length * B := by
  induction N using snoc_ind with
  | h0 => simp [prsL]
  | h1 N r ih =>
    have e : prsL (N ++ [r]) = prsL N ++ r.map fun o => ((N.length : Int), o) := by
      unfold prsL
      rw [List.mapIdx_concat, List.flatten_concat]
    rw [e, List.length_append, List.length_map, List.length_append, List.length_singleton, Nat.succ_mul]
    have := ih fun r hr => h r (List.mem_append.mpr (.inl hr))
    have := h r (by simp)
    omega
def sp_turned_round : DRn := d2 fun n m G Q => ∃ (N : List (List Int)) (M : Int), n = eN N ∧ m = .int M ∧ (0 ≤ M ∧ M ≤ 1000) ∧ N.length ≤ 1000 ∧ (∀ r ∈ N, r.length ≤ 1000) ∧ (∀ r ∈ N, ∀ a ∈ r, 0 ≤ a ∧ a < M) ∧ Q (eN (bkN N M)) G
abbrev N_turned_round : List Str := ["nexts", "many", "found", "one", "others", "other"]
def T_turned_round : DTS :=
    (dSeq (dAsg (dLc (diRange1 (dCons (dName 1) dNil)) (gdName 5) dYes (dLstM dNil) [5]) (gdName 2))
    (dSeq (dFor (diEnum (dCons (dName 0) dNil)) (gdTup (gdCons (gdName 3) (gdCons (gdName 4) gdNil)) 2)
    (dFor (diSeq (dName 4)) (gdName 5)
    (dDrop (dM "list" dAppend (dOp dIx (dName 2) (dName 5)) (dCons (dName 3) dNil)))))
    (dFrzL 2 (dRetF (dName 2)))))
theorem len_turned_round : ∀ ds G Q, sp_turned_round ds G Q → ds.length = 2 := fun ds G Q h => by
  match ds, h with
  | [_, _], _ => rfl
/-- the lists, one for each number -/
structure Lsts (G : DHp) (f : Addr) (M : Int) (P : List (Int × Int)) (l : List (Addr × List Int)) : Prop where
  nd : (l.map (·.1)).Nodup
  nf : f ∉ l.map (·.1)
  fr : ∀ a ∈ l.map (·.1), G a = none
  cs : l.map (·.2) = (rangeL 0 M).map (sel P)
theorem map_set2 {l : List (Addr × List Int)} {k : Nat} {a : Addr} {xs ys : List Int} (h : l[k]? = some (a, xs)) : (l.set k (a, ys)).map (·.1) = l.map (·.1) := by
  rw [List.map_set]
  obtain ⟨hk, e⟩ := List.getElem?_eq_some_iff.mp h
  refine List.ext_getElem? fun j => ?_
  rw [List.getElem?_set]
  split
  · rename_i hj
    subst hj
    rw [List.length_map, if_pos hk, List.getElem?_map, h]
    rfl
  · rfl
theorem Lsts.at_ {G : DHp} {f : Addr} {M : Int} {P : List (Int × Int)} {l : List (Addr × List Int)} (h : Lsts G f M P l) {o : Int} (h0 : 0 ≤ o) (h1 : o < M) : ∃ a, l[o.toNat]? = some (a, sel P o) := by
  have e : (l.map (·.2))[o.toNat]? = some (sel P o) := by
    rw [h.cs, List.getElem?_map, range_at (by omega), show (0 : Int) + (o.toNat : Int) = o by omega]
    rfl
  rw [List.getElem?_map] at e
  cases e2 : l[o.toNat]? with
  | none => rw [e2] at e; cases e
  | some x =>
    rw [e2] at e
    simp at e
    exact ⟨x.1, by rw [← e]⟩
theorem Lsts.step {G : DHp} {f : Addr} {M : Int} {P : List (Int × Int)} {l : List (Addr × List Int)} (h : Lsts G f M P l) {o i : Int} {a : Addr} (h0 : 0 ≤ o) (h1 : o < M) (e : l[o.toNat]? = some (a, sel P o)) : Lsts G f M (P ++ [(i, o)]) (l.set o.toNat (a, sel P o ++ [i])) := by
  refine ⟨by rw [map_set2 e]; exact h.nd, by rw [map_set2 e]; exact h.nf, by rw [map_set2 e]; exact h.fr, ?_⟩
  rw [List.map_set, h.cs]
  refine List.ext_getElem? fun j => ?_
  rw [List.getElem?_set, List.getElem?_map, List.getElem?_map]
  by_cases hj : j < (rangeL 0 M).length
  · have hj2 : (j : Int) < M - 0 := by rw [len_range] at hj; omega
    rw [range_at hj2]
    split
    · rename_i e2
      rw [List.length_map, if_pos (by rw [e2]; exact hj)]
      rw [show (0 : Int) + (j : Int) = o by omega]
      show some _ = some (sel (P ++ [(i, o)]) o)
      rw [sel_snoc, if_pos rfl]
    · rename_i e2
      show some _ = some (sel (P ++ [(i, o)]) _)
      rw [sel_snoc, if_neg (by omega)]
  · rw [List.getElem?_eq_none (by omega)]
    split
    · rename_i e2
      rw [List.length_map, if_neg (by omega)]
      rfl
    · rfl
theorem run_turned_round : ∀ ds G Q, sp_turned_round ds G Q → T_turned_round { nx := fun _ G' => Q .non G', rt := Q } (startD N_turned_round ds) G := fun ds G Q h => by
  match ds, h with
  | [_, _], ⟨N, M, rfl, rfl, hM, hN, hr, hin, q⟩ =>
    simp only [T_turned_round, N_turned_round, dLc, diRange1, dSeq, dIfS, dTest, dOp, dName, dC, dRet, dLstF, dCons, dNil, dTup, dNext, dAsg, dLstM, gdName, dDrop, dM, dM0, dIf, dAnd, dOr, dNot, dAndV, dOrV, dNotV, dChain, dFz, dRetF, dRetN, dBreak, dCont, dCB, gdTup, gdCons, gdNil, gdSub, dNeg, dAug, dAugS, dFrz, dPar, dNoPart, dPart, dSlice, dYes, wipeD, i2, d1, d2, d3, startD, List.map_cons, List.map_nil, List.length_cons, List.length_nil, List.cons_append, List.nil_append, List.append_nil, List.getElem?_cons_zero, List.getElem?_cons_succ, List.getElem?_nil, List.replicate, List.set_cons_succ, List.set_cons_zero, Nat.reduceAdd, Nat.reduceSub, Nat.reduceLeDiff, run_eqi, run_nei, run_lt, run_le, run_gt, run_ge, run_addi, run_iaddi, true_and, and_true, Bool.not_eq_true, Bool.not_true, Bool.not_false, if_true, if_false, Bool.false_eq_true, ite_true, ite_false, reduceIte, reduceCtorEq, decide_eq_true_eq, decide_eq_false_iff_not, Option.isSome_some, Option.isSome_none, Bool.true_bne, Bool.false_bne]
    refine ⟨⟨by omega, by omega⟩, fun f hf => ?_⟩
    refine ⟨fun i acc G' => ∃ l : List (Addr × List Int), (l.map (·.1)).Nodup ∧ f ∉ l.map (·.1) ∧ (∀ a ∈ l.map (·.1), G a = none) ∧ l.map (·.2) = ((rangeL 0 M).take i).map (sel []) ∧ acc = l.map (fun x => D.ref x.1) ∧ G' = up (upsI G l) f (.lst acc), ⟨[], by simp, by simp, by simp, by simp, rfl, rfl⟩, ?_, ?_, ?_⟩
    · rintro i acc G' ⟨l, _, _, _, _, rfl, rfl⟩
      exact ⟨trivial, up_same⟩
    · rintro i d acc G' hd ⟨l, nd, nf, fr, cs, rfl, rfl⟩
      obtain ⟨a, ha, rfl⟩ := get_map hd
      have hlen : l.length ≤ 1000 := by
        have := congrArg List.length cs
        rw [List.length_map, List.length_map, List.length_take, len_range] at this
        omega
      simp only [dSeq, dIfS, dTest, dOp, dName, dC, dRet, dLstF, dCons, dNil, dTup, dNext, dAsg, dLstM, gdName, dDrop, dM, dM0, dIf, dAnd, dOr, dNot, dAndV, dOrV, dNotV, dChain, dFz, dRetF, dRetN, dBreak, dCont, dCB, gdTup, gdCons, gdNil, gdSub, dNeg, dAug, dAugS, dFrz, dPar, dNoPart, dPart, dSlice, dYes, wipeD, i2, d1, d2, d3, startD, List.map_cons, List.map_nil, List.length_cons, List.length_nil, List.cons_append, List.nil_append, List.append_nil, List.getElem?_cons_zero, List.getElem?_cons_succ, List.getElem?_nil, List.replicate, List.set_cons_succ, List.set_cons_zero, Nat.reduceAdd, Nat.reduceSub, Nat.reduceLeDiff, run_eqi, run_nei, run_lt, run_le, run_gt, run_ge, run_addi, run_iaddi, true_and, and_true, Bool.not_eq_true, Bool.not_true, Bool.not_false, if_true, if_false, Bool.false_eq_true, ite_true, ite_false, reduceIte, reduceCtorEq, decide_eq_true_eq, decide_eq_false_iff_not, Option.isSome_some, Option.isSome_none, Bool.true_bne, Bool.false_bne]
      intro p hp
      have pf : p ≠ f := fun e => by rw [e, up_same] at hp; cases hp
      rw [up_ne pf] at hp
      have pn : p ∉ l.map (·.1) := fun hm => by
        obtain ⟨x, hx, e⟩ := List.mem_map.mp hm
        obtain ⟨k, hk, e2⟩ := List.getElem_of_mem hx
        have : upsI G l p = some (.lst (x.2.map .int)) := upsI_get (k := k) (xs := x.2) nd (by rw [List.getElem?_eq_getElem hk, e2, ← e])
        rw [this] at hp; cases hp
      have hGp : G p = none := by have := upsI_none (G := G) pn; rw [← this]; exact hp
      refine ⟨small_line (by rw [List.length_map]; omega), by rw [up_ne (Ne.symm pf), up_same], l ++ [(p, [])], ?_, ?_, ?_, ?_, ?_, ?_⟩
      · rw [List.map_append, List.nodup_append]
        exact ⟨nd, by simp, fun x hx y hy => by simp at hy; subst hy; exact fun z => pn (z ▸ hx)⟩
      · rw [List.map_append, List.mem_append, not_or]
        exact ⟨nf, by simp; exact Ne.symm pf⟩
      · intro a ha
        rw [List.map_append, List.mem_append] at ha
        rcases ha with ha | ha
        · exact fr a ha
        · simp at ha; subst ha; exact hGp
      · rw [List.map_append, cs, take_sn ha, List.map_append]
        rfl
      · rw [List.map_append]; rfl
      · rw [← upsI_snoc pn, up_comm pf.symm, up_up]
        rfl
    · rintro acc G' ⟨l, nd, nf, fr, cs, rfl, rfl⟩
      rw [List.length_map, List.take_length] at cs
      simp only [dFor, diEnum, dSeq, dIfS, dTest, dOp, dName, dC, dRet, dLstF, dCons, dNil, dTup, dNext, dAsg, dLstM, gdName, dDrop, dM, dM0, dIf, dAnd, dOr, dNot, dAndV, dOrV, dNotV, dChain, dFz, dRetF, dRetN, dBreak, dCont, dCB, gdTup, gdCons, gdNil, gdSub, dNeg, dAug, dAugS, dFrz, dPar, dNoPart, dPart, dSlice, dYes, wipeD, i2, d1, d2, d3, startD, List.map_cons, List.map_nil, List.length_cons, List.length_nil, List.cons_append, List.nil_append, List.append_nil, List.getElem?_cons_zero, List.getElem?_cons_succ, List.getElem?_nil, List.replicate, List.set_cons_succ, List.set_cons_zero, Nat.reduceAdd, Nat.reduceSub, Nat.reduceLeDiff, run_eqi, run_nei, run_lt, run_le, run_gt, run_ge, run_addi, run_iaddi, true_and, and_true, Bool.not_eq_true, Bool.not_true, Bool.not_false, if_true, if_false, Bool.false_eq_true, ite_true, ite_false, reduceIte, reduceCtorEq, decide_eq_true_eq, decide_eq_false_iff_not, Option.isSome_some, Option.isSome_none, Bool.true_bne, Bool.false_bne]
      refine ⟨fun i η G' => ∃ l on ots oth, η = [some (eN N), some (.int M), some (.ref f), on, ots, oth] ∧ G' = up (upsI G l) f (.lst (l.map fun x => D.ref x.1)) ∧ Lsts G f M (prsL (N.take i)) l, ⟨l, none, none, none, rfl, rfl, nd, nf, fr, by rw [cs]; rfl⟩, fun _ _ _ _ => trivial, ?_, ?_⟩
      · rintro i d η G' hd ⟨l, on, ots, oth, rfl, rfl, L⟩
        obtain ⟨z, hz, rfl⟩ := enumL_get hd
        obtain ⟨r, hr2, rfl⟩ := get_map hz
        have hrm := List.mem_of_getElem? hr2
        simp only [diSeq, eL, dSeq, dIfS, dTest, dOp, dName, dC, dRet, dLstF, dCons, dNil, dTup, dNext, dAsg, dLstM, gdName, dDrop, dM, dM0, dIf, dAnd, dOr, dNot, dAndV, dOrV, dNotV, dChain, dFz, dRetF, dRetN, dBreak, dCont, dCB, gdTup, gdCons, gdNil, gdSub, dNeg, dAug, dAugS, dFrz, dPar, dNoPart, dPart, dSlice, dYes, wipeD, i2, d1, d2, d3, startD, List.map_cons, List.map_nil, List.length_cons, List.length_nil, List.cons_append, List.nil_append, List.append_nil, List.getElem?_cons_zero, List.getElem?_cons_succ, List.getElem?_nil, List.replicate, List.set_cons_succ, List.set_cons_zero, Nat.reduceAdd, Nat.reduceSub, Nat.reduceLeDiff, run_eqi, run_nei, run_lt, run_le, run_gt, run_ge, run_addi, run_iaddi, true_and, and_true, Bool.not_eq_true, Bool.not_true, Bool.not_false, if_true, if_false, Bool.false_eq_true, ite_true, ite_false, reduceIte, reduceCtorEq, decide_eq_true_eq, decide_eq_false_iff_not, Option.isSome_some, Option.isSome_none, Bool.true_bne, Bool.false_bne]
        refine ⟨fun j η G' => ∃ l oth, η = [some (eN N), some (.int M), some (.ref f), some (.int i), some (eL .int r), oth] ∧ G' = up (upsI G l) f (.lst (l.map fun x => D.ref x.1)) ∧ Lsts G f M (prsL (N.take i) ++ (r.take j).map fun o => ((i : Int), o)) l, ⟨l, oth, rfl, rfl, by simpa using L⟩, fun _ _ _ _ => trivial, ?_, ?_⟩
        · rintro j d η G' hd ⟨l, oth, rfl, rfl, L⟩
          obtain ⟨o, ho, rfl⟩ := get_map hd
          obtain ⟨h0, h1⟩ := hin r hrm o (List.mem_of_getElem? ho)
          obtain ⟨a, ea⟩ := L.at_ h0 h1
          have am : a ∈ l.map (·.1) := List.mem_map.mpr ⟨_, List.mem_of_getElem? ea, rfl⟩
          have af : a ≠ f := fun e => L.nf (e ▸ am)
          have hlen : (sel (prsL (N.take i) ++ (r.take j).map fun o => ((i : Int), o)) o).length ≤ 1000000 := by
            refine Nat.le_trans (sel_len _ _) ?_
            have hi := (List.getElem?_eq_some_iff.mp hr2).1
            have h1 := prs_len (N := N.take i) (B := 1000) fun r hr3 => hr r (List.mem_of_mem_take hr3)
            have h2 : (r.take j).length ≤ 1000 := by rw [List.length_take]; have := hr r hrm; omega
            rw [List.length_append, List.length_map]
            rw [List.length_take] at h1
            have : min i N.length ≤ 999 := by omega
            have := Nat.mul_le_mul_right 1000 this
            omega
          simp only [dSeq, dIfS, dTest, dOp, dName, dC, dRet, dLstF, dCons, dNil, dTup, dNext, dAsg, dLstM, gdName, dDrop, dM, dM0, dIf, dAnd, dOr, dNot, dAndV, dOrV, dNotV, dChain, dFz, dRetF, dRetN, dBreak, dCont, dCB, gdTup, gdCons, gdNil, gdSub, dNeg, dAug, dAugS, dFrz, dPar, dNoPart, dPart, dSlice, dYes, wipeD, i2, d1, d2, d3, startD, List.map_cons, List.map_nil, List.length_cons, List.length_nil, List.cons_append, List.nil_append, List.append_nil, List.getElem?_cons_zero, List.getElem?_cons_succ, List.getElem?_nil, List.replicate, List.set_cons_succ, List.set_cons_zero, Nat.reduceAdd, Nat.reduceSub, Nat.reduceLeDiff, run_eqi, run_nei, run_lt, run_le, run_gt, run_ge, run_addi, run_iaddi, true_and, and_true, Bool.not_eq_true, Bool.not_true, Bool.not_false, if_true, if_false, Bool.false_eq_true, ite_true, ite_false, reduceIte, reduceCtorEq, decide_eq_true_eq, decide_eq_false_iff_not, Option.isSome_some, Option.isSome_none, Bool.true_bne, Bool.false_bne]
          refine run_ixR (d := .ref a) up_same h0 (by rw [List.getElem?_map, ea]; rfl) ?_
          refine run_app (xs := (sel (prsL (N.take i) ++ (r.take j).map fun o => ((i : Int), o)) o).map .int) (by rw [up_ne af]; exact upsI_get L.nd ea) (small_line (by rw [List.length_map]; exact hlen)) ?_
          refine ⟨_, (by repeat (first | exact Le.nil | apply Le.keep | apply Le.drop)), l.set o.toNat (a, sel (prsL (N.take i) ++ (r.take j).map fun o => ((i : Int), o)) o ++ [(i : Int)]), _, rfl, ?_, ?_⟩
          · rw [up_comm (Ne.symm af)]
            have := upsI_set (G := G) (ys := sel (prsL (N.take i) ++ (r.take j).map fun o => ((i : Int), o)) o ++ [(i : Int)]) L.nd ea
            rw [List.map_append] at this
            rw [show (l.set o.toNat (a, sel (prsL (N.take i) ++ (r.take j).map fun o => ((i : Int), o)) o ++ [(i : Int)])).map (fun x => D.ref x.1) = l.map fun x => D.ref x.1 by
              have := congrArg (List.map D.ref) (map_set2 (ys := sel (prsL (N.take i) ++ (r.take j).map fun o => ((i : Int), o)) o ++ [(i : Int)]) ea)
              rw [List.map_map, List.map_map] at this
              exact this]
            exact congrArg (fun x => up x f _) this
          · have := L.step (i := (i : Int)) h0 h1 ea
            rw [take_sn ho, List.map_append, ← List.append_assoc]
            exact this
        · rintro η G' ⟨l, oth, rfl, rfl, L⟩
          rw [List.length_map, List.take_length] at L
          exact ⟨_, (by repeat (first | exact Le.nil | apply Le.keep | apply Le.drop)), l, _, _, _, rfl, rfl, by rw [prs_take hr2]; exact L⟩
      · rintro η G' ⟨l, on, ots, oth, rfl, rfl, L⟩
        rw [enumL_len, List.length_map, List.take_length] at L
        have hf2 : upsI G l f = none := by rw [upsI_none L.nf]; exact hf
        simp only [dFrzL, up_same, dl_up hf2, upsI_frz L.nd L.fr, dSeq, dIfS, dTest, dOp, dName, dC, dRet, dLstF, dCons, dNil, dTup, dNext, dAsg, dLstM, gdName, dDrop, dM, dM0, dIf, dAnd, dOr, dNot, dAndV, dOrV, dNotV, dChain, dFz, dRetF, dRetN, dBreak, dCont, dCB, gdTup, gdCons, gdNil, gdSub, dNeg, dAug, dAugS, dFrz, dPar, dNoPart, dPart, dSlice, dYes, wipeD, i2, d1, d2, d3, startD, List.map_cons, List.map_nil, List.length_cons, List.length_nil, List.cons_append, List.nil_append, List.append_nil, List.getElem?_cons_zero, List.getElem?_cons_succ, List.getElem?_nil, List.replicate, List.set_cons_succ, List.set_cons_zero, Nat.reduceAdd, Nat.reduceSub, Nat.reduceLeDiff, run_eqi, run_nei, run_lt, run_le, run_gt, run_ge, run_addi, run_iaddi, true_and, and_true, Bool.not_eq_true, Bool.not_true, Bool.not_false, if_true, if_false, Bool.false_eq_true, ite_true, ite_false, reduceIte, reduceCtorEq, decide_eq_true_eq, decide_eq_false_iff_not, Option.isSome_some, Option.isSome_none, Bool.true_bne, Bool.false_bne]
        rw [show (l.map fun x => eL D.int x.2) = (bkN N M).map (eL .int) by
          unfold bkN
          rw [← L.cs, List.map_map]; rfl]
        exact q
end M
namespace M
open PySem PySem.Spec PyProof.Rows L2 DL
variable [CA]

/-! ### are_near -/
def ab (i : Int) : Int := if i < 0 then -i else i
theorem run_abs {i : Int} {G : DHp} {Q : DVK} : dAbs [.int i] G Q = Q (.int (ab i)) G := rfl
abbrev Pt := Int × Int × Int
def nearP (p q : Pt) (er : Int) : Prop := p.2.2 = q.2.2 ∧ ab (p.1 - q.1) ≤ er ∧ ab (p.2.1 - q.2.1) ≤ er
instance (p q : Pt) (er : Int) : Decidable (nearP p q er) := by unfold nearP; infer_instance
def sp_are_near : DRn := fun ds G Q => ∃ (p q : Pt) (er : Int), ds = [e3 p, e3 q, .int er] ∧ Q (.bl (decide (nearP p q er))) G
abbrev N_are_near : List Str := ["point", "place", "error"]
def T_are_near : DTS :=
    (dRet (dAndV (dOp dEq (dOp dIx (dName 0) (dC (.int 2))) (dOp dIx (dName 1) (dC (.int 2)))) (dAndV (dOp dLe (dCB dAbs (dCons (dOp dSub (dOp dIx (dName 0) (dC (.int 0))) (dOp dIx (dName 1) (dC (.int 0)))) dNil)) (dName 2)) (dOp dLe (dCB dAbs (dCons (dOp dSub (dOp dIx (dName 0) (dC (.int 1))) (dOp dIx (dName 1) (dC (.int 1)))) dNil)) (dName 2)))))
theorem len_are_near : ∀ ds G Q, sp_are_near ds G Q → ds.length = 3 := fun ds G Q ⟨c, x, y, e, _⟩ => by rw [e]; rfl
theorem ix3_0 {p : Pt} {G : DHp} {Q : DVK} (q : Q (.int p.1) G) : dIx (e3 p) (.int 0) G Q := run_ix (by decide) rfl q
theorem ix3_1 {p : Pt} {G : DHp} {Q : DVK} (q : Q (.int p.2.1) G) : dIx (e3 p) (.int 1) G Q := run_ix (by decide) rfl q
theorem ix3_2 {p : Pt} {G : DHp} {Q : DVK} (q : Q (.int p.2.2) G) : dIx (e3 p) (.int 2) G Q := run_ix (by decide) rfl q
theorem dec_bl {p : Prop} [Decidable p] {b : Bool} (h : b = true ↔ p) : decide p = b := by rw [Bool.eq_iff_iff, decide_eq_true_eq]; exact h.symm
theorem run_are_near : ∀ ds G Q, sp_are_near ds G Q → T_are_near { nx := fun _ G' => Q .non G', rt := Q } (startD N_are_near ds) G := fun ds G Q h => by
  obtain ⟨p, q, er, rfl, k⟩ := h
  simp only [T_are_near, N_are_near, dSeq, dIfS, dTest, dOp, dName, dC, dRet, dLstF, dCons, dNil, dTup, dNext, dAsg, dLstM, gdName, dDrop, dM, dM0, dIf, dAnd, dOr, dNot, dAndV, dOrV, dNotV, dChain, dFz, dRetF, dRetN, dBreak, dCont, dCB, gdTup, gdCons, gdNil, gdSub, dNeg, dAug, dAugS, dFrz, dPar, dNoPart, dPart, dSlice, dYes, wipeD, i2, d1, d2, d3, startD, List.map_cons, List.map_nil, List.length_cons, List.length_nil, List.cons_append, List.nil_append, List.append_nil, List.getElem?_cons_zero, List.getElem?_cons_succ, List.getElem?_nil, List.replicate, List.set_cons_succ, List.set_cons_zero, Nat.reduceAdd, Nat.reduceSub, Nat.reduceLeDiff, run_eqi, run_nei, run_lt, run_le, run_gt, run_ge, run_addi, run_iaddi, true_and, and_true, Bool.not_eq_true, Bool.not_true, Bool.not_false, if_true, if_false, Bool.false_eq_true, ite_true, ite_false, reduceIte, reduceCtorEq, decide_eq_true_eq, decide_eq_false_iff_not, Option.isSome_some, Option.isSome_none, Bool.true_bne, Bool.false_bne]
  refine ix3_2 (ix3_2 ?_)
  simp only [run_abs, dSeq, dIfS, dTest, dOp, dName, dC, dRet, dLstF, dCons, dNil, dTup, dNext, dAsg, dLstM, gdName, dDrop, dM, dM0, dIf, dAnd, dOr, dNot, dAndV, dOrV, dNotV, dChain, dFz, dRetF, dRetN, dBreak, dCont, dCB, gdTup, gdCons, gdNil, gdSub, dNeg, dAug, dAugS, dFrz, dPar, dNoPart, dPart, dSlice, dYes, wipeD, i2, d1, d2, d3, startD, List.map_cons, List.map_nil, List.length_cons, List.length_nil, List.cons_append, List.nil_append, List.append_nil, List.getElem?_cons_zero, List.getElem?_cons_succ, List.getElem?_nil, List.replicate, List.set_cons_succ, List.set_cons_zero, Nat.reduceAdd, Nat.reduceSub, Nat.reduceLeDiff, run_eqi, run_nei, run_lt, run_le, run_gt, run_ge, run_addi, run_iaddi, true_and, and_true, Bool.not_eq_true, Bool.not_true, Bool.not_false, if_true, if_false, Bool.false_eq_true, ite_true, ite_false, reduceIte, reduceCtorEq, decide_eq_true_eq, decide_eq_false_iff_not, Option.isSome_some, Option.isSome_none, Bool.true_bne, Bool.false_bne]
  by_cases h1 : p.2.2 = q.2.2
  · rw [if_pos h1]
    refine ix3_0 (ix3_0 ?_)
    simp only [run_abs, dSeq, dIfS, dTest, dOp, dName, dC, dRet, dLstF, dCons, dNil, dTup, dNext, dAsg, dLstM, gdName, dDrop, dM, dM0, dIf, dAnd, dOr, dNot, dAndV, dOrV, dNotV, dChain, dFz, dRetF, dRetN, dBreak, dCont, dCB, gdTup, gdCons, gdNil, gdSub, dNeg, dAug, dAugS, dFrz, dPar, dNoPart, dPart, dSlice, dYes, wipeD, i2, d1, d2, d3, startD, List.map_cons, List.map_nil, List.length_cons, List.length_nil, List.cons_append, List.nil_append, List.append_nil, List.getElem?_cons_zero, List.getElem?_cons_succ, List.getElem?_nil, List.replicate, List.set_cons_succ, List.set_cons_zero, Nat.reduceAdd, Nat.reduceSub, Nat.reduceLeDiff, run_eqi, run_nei, run_lt, run_le, run_gt, run_ge, run_addi, run_iaddi, true_and, and_true, Bool.not_eq_true, Bool.not_true, Bool.not_false, if_true, if_false, Bool.false_eq_true, ite_true, ite_false, reduceIte, reduceCtorEq, decide_eq_true_eq, decide_eq_false_iff_not, Option.isSome_some, Option.isSome_none, Bool.true_bne, Bool.false_bne]
    by_cases h2 : ab (p.1 - q.1) ≤ er
    · rw [if_pos h2]
      refine ix3_1 (ix3_1 ?_)
      simp only [run_abs, dSeq, dIfS, dTest, dOp, dName, dC, dRet, dLstF, dCons, dNil, dTup, dNext, dAsg, dLstM, gdName, dDrop, dM, dM0, dIf, dAnd, dOr, dNot, dAndV, dOrV, dNotV, dChain, dFz, dRetF, dRetN, dBreak, dCont, dCB, gdTup, gdCons, gdNil, gdSub, dNeg, dAug, dAugS, dFrz, dPar, dNoPart, dPart, dSlice, dYes, wipeD, i2, d1, d2, d3, startD, List.map_cons, List.map_nil, List.length_cons, List.length_nil, List.cons_append, List.nil_append, List.append_nil, List.getElem?_cons_zero, List.getElem?_cons_succ, List.getElem?_nil, List.replicate, List.set_cons_succ, List.set_cons_zero, Nat.reduceAdd, Nat.reduceSub, Nat.reduceLeDiff, run_eqi, run_nei, run_lt, run_le, run_gt, run_ge, run_addi, run_iaddi, true_and, and_true, Bool.not_eq_true, Bool.not_true, Bool.not_false, if_true, if_false, Bool.false_eq_true, ite_true, ite_false, reduceIte, reduceCtorEq, decide_eq_true_eq, decide_eq_false_iff_not, Option.isSome_some, Option.isSome_none, Bool.true_bne, Bool.false_bne]
      rw [dec_bl (p := nearP p q er) (b := decide (ab (p.2.1 - q.2.1) ≤ er)) (by rw [decide_eq_true_eq]; exact ⟨fun z => ⟨h1, h2, z⟩, fun z => z.2.2⟩)] at k
      exact k
    · rw [if_neg h2]
      rw [decide_eq_false (fun z : nearP p q er => h2 z.2.1)] at k
      exact k
  · rw [if_neg h1]
    rw [decide_eq_false (fun z : nearP p q er => h1 z.1)] at k
    exact k
/-! ### nexts_of -/
/-- the numbers of those with a property -/
def whr {α : Type} (f : α → Bool) (l : List α) : List Int := (l.mapIdx fun i p => ((i : Int), p)).filterMap fun x => if f x.2 then some x.1 else none
theorem whr_snoc {α : Type} (f : α → Bool) (l : List α) (x : α) : whr f (l ++ [x]) = whr f l ++ if f x then [(l.length : Int)] else [] := by
  unfold whr
  rw [List.mapIdx_concat, List.filterMap_append]
  congr 1
  by_cases h : f x = true
  · simp [h]
  · simp [h]
theorem whr_take {α : Type} (f : α → Bool) {l : List α} {i : Nat} {x : α} (h : l[i]? = some x) : whr f (l.take (i + 1)) = whr f (l.take i) ++ if f x then [(i : Int)] else [] := by
  rw [take_sn h, whr_snoc, List.length_take, Nat.min_eq_left (Nat.le_of_lt (List.getElem?_eq_some_iff.mp h).1)]
theorem whr_len {α : Type} (f : α → Bool) (l : List α) : (whr f l).length ≤ l.length := by
  unfold whr
  refine Nat.le_trans (List.length_filterMap_le _ _) ?_
  rw [List.length_mapIdx]
  exact Nat.le_refl _
theorem whr_mem {α : Type} {f : α → Bool} {l : List α} {a : Int} : a ∈ whr f l ↔ ∃ (i : Nat) (x : α), a = i ∧ l[i]? = some x ∧ f x = true := by
  unfold whr
  rw [List.mem_filterMap]
  constructor
  · rintro ⟨y, hy, e⟩
    rw [List.mem_mapIdx] at hy
    obtain ⟨i, hi, rfl⟩ := hy
    dsimp only at e
    split at e
    · rename_i h
      cases e
      exact ⟨i, l[i], rfl, List.getElem?_eq_getElem hi, h⟩
    · cases e
  · rintro ⟨i, x, rfl, h, hf⟩
    obtain ⟨hi, e⟩ := List.getElem?_eq_some_iff.mp h
    exact ⟨((i : Int), x), List.mem_mapIdx.mpr ⟨i, hi, by rw [e]⟩, by simp [hf]⟩
theorem whr_sorted {α : Type} (f : α → Bool) (l : List α) : (whr f l).Pairwise (· < ·) := by
  induction l using snoc_ind with
  | h0 => simp [whr]
  | h1 l x ih =>
    rw [whr_snoc, List.pairwise_append]
    refine ⟨ih, by split <;> simp, fun a ha b hb => ?_⟩
    obtain ⟨i, y, rfl, hi, _⟩ := whr_mem.mp ha
    have := (List.getElem?_eq_some_iff.mp hi).1
    split at hb
    · simp at hb; omega
    · cases hb
theorem whr_nodup {α : Type} (f : α → Bool) (l : List α) : (whr f l).Nodup := (whr_sorted f l).imp fun h => by omega
def nearL (ps : List Pt) (er : Int) (p : Pt) : List Int := whr (fun q => decide (nearP p q er)) ps
def nxL (s : Sk) (pic : List Pt) (st : Pt) : List (List Int) := pic.map (nearL (placesL s st) s.cam.er)
def sp_nexts_of : DRn := fun ds G Q => ∃ (s : Sk) (pic : List Pt) (st : Pt), ds = [sD s, eT e3 pic, e3 st] ∧ s.cs.length ≤ 100 ∧ pic.length ≤ 1000 ∧ Q (eN (nxL s pic st)) G
abbrev N_nexts_of : List Str := ["sky", "picture", "standing", "places", "error", "found", "point", "number", "place"]
def T_nexts_of : DTS :=
    (dSeq (dAsg (dTup (dCons (dMeth CA.Sky "places" sp_Sky_places (dName 0) (dCons (dName 2) dNil)) (dCons (dFld CA.Camera "error" (dFld CA.Sky "camera" (dName 0))) dNil))) (gdTup (gdCons (gdName 3) (gdCons (gdName 4) gdNil)) 2))
    (dSeq (dAsg (dLstM dNil) (gdName 5))
    (dSeq (dFor (diSeq (dName 1)) (gdName 6)
    (dDrop (dM "list" dAppend (dName 5) (dCons (dFz (dLc (diEnum (dCons (dName 3) dNil)) (gdTup (gdCons (gdName 7) (gdCons (gdName 8) gdNil)) 2) (dTest (dCB sp_are_near (dCons (dName 6) (dCons (dName 8) (dCons (dName 4) dNil))))) (dName 7) [7, 8])) dNil))))
    (dRetF (dName 5)))))
theorem len_nexts_of : ∀ ds G Q, sp_nexts_of ds G Q → ds.length = 3 := fun ds G Q ⟨c, x, y, e, _⟩ => by rw [e]; rfl
theorem pl_len (s : Sk) (st : Pt) : (placesL s st).length = s.cs.length := List.length_map ..
theorem run_nexts_of : ∀ ds G Q, sp_nexts_of ds G Q → T_nexts_of { nx := fun _ G' => Q .non G', rt := Q } (startD N_nexts_of ds) G := fun ds G Q h => by
  obtain ⟨s, pic, st, rfl, hl, hp, q⟩ := h
  simp only [T_nexts_of, N_nexts_of, dMeth, dSeq, dIfS, dTest, dOp, dName, dC, dRet, dLstF, dCons, dNil, dTup, dNext, dAsg, dLstM, gdName, dDrop, dM, dM0, dIf, dAnd, dOr, dNot, dAndV, dOrV, dNotV, dChain, dFz, dRetF, dRetN, dBreak, dCont, dCB, gdTup, gdCons, gdNil, gdSub, dNeg, dAug, dAugS, dFrz, dPar, dNoPart, dPart, dSlice, dYes, wipeD, i2, d1, d2, d3, startD, List.map_cons, List.map_nil, List.length_cons, List.length_nil, List.cons_append, List.nil_append, List.append_nil, List.getElem?_cons_zero, List.getElem?_cons_succ, List.getElem?_nil, List.replicate, List.set_cons_succ, List.set_cons_zero, Nat.reduceAdd, Nat.reduceSub, Nat.reduceLeDiff, run_eqi, run_nei, run_lt, run_le, run_gt, run_ge, run_addi, run_iaddi, true_and, and_true, Bool.not_eq_true, Bool.not_true, Bool.not_false, if_true, if_false, Bool.false_eq_true, ite_true, ite_false, reduceIte, reduceCtorEq, decide_eq_true_eq, decide_eq_false_iff_not, Option.isSome_some, Option.isSome_none, Bool.true_bne, Bool.false_bne]
  refine ⟨ins_sky (by decide), s, st, rfl, hl, ?_⟩
  simp only [dFld, fl_camera, fl_error, dSeq, dIfS, dTest, dOp, dName, dC, dRet, dLstF, dCons, dNil, dTup, dNext, dAsg, dLstM, gdName, dDrop, dM, dM0, dIf, dAnd, dOr, dNot, dAndV, dOrV, dNotV, dChain, dFz, dRetF, dRetN, dBreak, dCont, dCB, gdTup, gdCons, gdNil, gdSub, dNeg, dAug, dAugS, dFrz, dPar, dNoPart, dPart, dSlice, dYes, wipeD, i2, d1, d2, d3, startD, List.map_cons, List.map_nil, List.length_cons, List.length_nil, List.cons_append, List.nil_append, List.append_nil, List.getElem?_cons_zero, List.getElem?_cons_succ, List.getElem?_nil, List.replicate, List.set_cons_succ, List.set_cons_zero, Nat.reduceAdd, Nat.reduceSub, Nat.reduceLeDiff, run_eqi, run_nei, run_lt, run_le, run_gt, run_ge, run_addi, run_iaddi, true_and, and_true, Bool.not_eq_true, Bool.not_true, Bool.not_false, if_true, if_false, Bool.false_eq_true, ite_true, ite_false, reduceIte, reduceCtorEq, decide_eq_true_eq, decide_eq_false_iff_not, Option.isSome_some, Option.isSome_none, Bool.true_bne, Bool.false_bne]
  intro f hf
  simp only [dFor, diSeq, eT, dSeq, dIfS, dTest, dOp, dName, dC, dRet, dLstF, dCons, dNil, dTup, dNext, dAsg, dLstM, gdName, dDrop, dM, dM0, dIf, dAnd, dOr, dNot, dAndV, dOrV, dNotV, dChain, dFz, dRetF, dRetN, dBreak, dCont, dCB, gdTup, gdCons, gdNil, gdSub, dNeg, dAug, dAugS, dFrz, dPar, dNoPart, dPart, dSlice, dYes, wipeD, i2, d1, d2, d3, startD, List.map_cons, List.map_nil, List.length_cons, List.length_nil, List.cons_append, List.nil_append, List.append_nil, List.getElem?_cons_zero, List.getElem?_cons_succ, List.getElem?_nil, List.replicate, List.set_cons_succ, List.set_cons_zero, Nat.reduceAdd, Nat.reduceSub, Nat.reduceLeDiff, run_eqi, run_nei, run_lt, run_le, run_gt, run_ge, run_addi, run_iaddi, true_and, and_true, Bool.not_eq_true, Bool.not_true, Bool.not_false, if_true, if_false, Bool.false_eq_true, ite_true, ite_false, reduceIte, reduceCtorEq, decide_eq_true_eq, decide_eq_false_iff_not, Option.isSome_some, Option.isSome_none, Bool.true_bne, Bool.false_bne]
  refine ⟨fun i η G' => ∃ a b c, η = [some (sD s), some (eT e3 pic), some (e3 st), some (eL e3 (placesL s st)), some (.int s.cam.er), some (.ref f), a, b, c] ∧ G' = up G f (.lst (((pic.take i).map (nearL (placesL s st) s.cam.er)).map (eL .int))), ⟨none, none, none, rfl, rfl⟩, fun _ _ _ _ => trivial, ?_, ?_⟩
  · rintro i d η G' hd ⟨a, b, c, rfl, rfl⟩
    obtain ⟨p, hpi, rfl⟩ := get_map hd
    have hi := (List.getElem?_eq_some_iff.mp hpi).1
    simp only [dLc, diEnum, eL, dSeq, dIfS, dTest, dOp, dName, dC, dRet, dLstF, dCons, dNil, dTup, dNext, dAsg, dLstM, gdName, dDrop, dM, dM0, dIf, dAnd, dOr, dNot, dAndV, dOrV, dNotV, dChain, dFz, dRetF, dRetN, dBreak, dCont, dCB, gdTup, gdCons, gdNil, gdSub, dNeg, dAug, dAugS, dFrz, dPar, dNoPart, dPart, dSlice, dYes, wipeD, i2, d1, d2, d3, startD, List.map_cons, List.map_nil, List.length_cons, List.length_nil, List.cons_append, List.nil_append, List.append_nil, List.getElem?_cons_zero, List.getElem?_cons_succ, List.getElem?_nil, List.replicate, List.set_cons_succ, List.set_cons_zero, Nat.reduceAdd, Nat.reduceSub, Nat.reduceLeDiff, run_eqi, run_nei, run_lt, run_le, run_gt, run_ge, run_addi, run_iaddi, true_and, and_true, Bool.not_eq_true, Bool.not_true, Bool.not_false, if_true, if_false, Bool.false_eq_true, ite_true, ite_false, reduceIte, reduceCtorEq, decide_eq_true_eq, decide_eq_false_iff_not, Option.isSome_some, Option.isSome_none, Bool.true_bne, Bool.false_bne]
    refine ⟨by simp only [tyD, up_same], ?_⟩
    intro w hw
    have fw : f ≠ w := fun e => by subst e; rw [up_same] at hw; cases hw
    have hGw : G w = none := by rw [up_ne fw.symm] at hw; exact hw
    refine ⟨fun j acc G' => acc = (whr (fun q => decide (nearP p q s.cam.er)) ((placesL s st).take j)).map .int ∧ G' = up (up G f (.lst (((pic.take i).map (nearL (placesL s st) s.cam.er)).map (eL .int)))) w (.lst acc), ⟨rfl, rfl⟩, ?_, ?_, ?_⟩
    · rintro j acc G' ⟨_, rfl⟩
      exact ⟨trivial, up_same⟩
    · rintro j d acc G' hd ⟨rfl, rfl⟩
      obtain ⟨z, hz, rfl⟩ := enumL_get hd
      obtain ⟨x, hx, rfl⟩ := get_map hz
      have hj := (List.getElem?_eq_some_iff.mp hx).1
      rw [pl_len] at hj
      simp only [dSeq, dIfS, dTest, dOp, dName, dC, dRet, dLstF, dCons, dNil, dTup, dNext, dAsg, dLstM, gdName, dDrop, dM, dM0, dIf, dAnd, dOr, dNot, dAndV, dOrV, dNotV, dChain, dFz, dRetF, dRetN, dBreak, dCont, dCB, gdTup, gdCons, gdNil, gdSub, dNeg, dAug, dAugS, dFrz, dPar, dNoPart, dPart, dSlice, dYes, wipeD, i2, d1, d2, d3, startD, List.map_cons, List.map_nil, List.length_cons, List.length_nil, List.cons_append, List.nil_append, List.append_nil, List.getElem?_cons_zero, List.getElem?_cons_succ, List.getElem?_nil, List.replicate, List.set_cons_succ, List.set_cons_zero, Nat.reduceAdd, Nat.reduceSub, Nat.reduceLeDiff, run_eqi, run_nei, run_lt, run_le, run_gt, run_ge, run_addi, run_iaddi, true_and, and_true, Bool.not_eq_true, Bool.not_true, Bool.not_false, if_true, if_false, Bool.false_eq_true, ite_true, ite_false, reduceIte, reduceCtorEq, decide_eq_true_eq, decide_eq_false_iff_not, Option.isSome_some, Option.isSome_none, Bool.true_bne, Bool.false_bne]
      refine ⟨p, x, s.cam.er, rfl, ?_⟩
      by_cases h1 : nearP p x s.cam.er
      · rw [decide_eq_true h1]
        simp only [dSeq, dIfS, dTest, dOp, dName, dC, dRet, dLstF, dCons, dNil, dTup, dNext, dAsg, dLstM, gdName, dDrop, dM, dM0, dIf, dAnd, dOr, dNot, dAndV, dOrV, dNotV, dChain, dFz, dRetF, dRetN, dBreak, dCont, dCB, gdTup, gdCons, gdNil, gdSub, dNeg, dAug, dAugS, dFrz, dPar, dNoPart, dPart, dSlice, dYes, wipeD, i2, d1, d2, d3, startD, List.map_cons, List.map_nil, List.length_cons, List.length_nil, List.cons_append, List.nil_append, List.append_nil, List.getElem?_cons_zero, List.getElem?_cons_succ, List.getElem?_nil, List.replicate, List.set_cons_succ, List.set_cons_zero, Nat.reduceAdd, Nat.reduceSub, Nat.reduceLeDiff, run_eqi, run_nei, run_lt, run_le, run_gt, run_ge, run_addi, run_iaddi, true_and, and_true, Bool.not_eq_true, Bool.not_true, Bool.not_false, if_true, if_false, Bool.false_eq_true, ite_true, ite_false, reduceIte, reduceCtorEq, decide_eq_true_eq, decide_eq_false_iff_not, Option.isSome_some, Option.isSome_none, Bool.true_bne, Bool.false_bne]
        refine ⟨small_line ?_, up_same, ?_, ?_⟩
        · rw [List.length_map]
          refine Nat.le_trans (whr_len _ _) ?_
          rw [List.length_take]; omega
        · rw [whr_take _ hx, decide_eq_true h1, List.map_append]; rfl
        · rw [up_up]
      · rw [decide_eq_false h1]
        simp only [dSeq, dIfS, dTest, dOp, dName, dC, dRet, dLstF, dCons, dNil, dTup, dNext, dAsg, dLstM, gdName, dDrop, dM, dM0, dIf, dAnd, dOr, dNot, dAndV, dOrV, dNotV, dChain, dFz, dRetF, dRetN, dBreak, dCont, dCB, gdTup, gdCons, gdNil, gdSub, dNeg, dAug, dAugS, dFrz, dPar, dNoPart, dPart, dSlice, dYes, wipeD, i2, d1, d2, d3, startD, List.map_cons, List.map_nil, List.length_cons, List.length_nil, List.cons_append, List.nil_append, List.append_nil, List.getElem?_cons_zero, List.getElem?_cons_succ, List.getElem?_nil, List.replicate, List.set_cons_succ, List.set_cons_zero, Nat.reduceAdd, Nat.reduceSub, Nat.reduceLeDiff, run_eqi, run_nei, run_lt, run_le, run_gt, run_ge, run_addi, run_iaddi, true_and, and_true, Bool.not_eq_true, Bool.not_true, Bool.not_false, if_true, if_false, Bool.false_eq_true, ite_true, ite_false, reduceIte, reduceCtorEq, decide_eq_true_eq, decide_eq_false_iff_not, Option.isSome_some, Option.isSome_none, Bool.true_bne, Bool.false_bne]
        rw [whr_take _ hx, decide_eq_false h1, if_neg Bool.false_ne_true, List.append_nil]
    · rintro acc G' ⟨rfl, rfl⟩
      rw [enumL_len, List.length_map, List.take_length]
      simp only [up_same, dl_up hw, dSeq, dIfS, dTest, dOp, dName, dC, dRet, dLstF, dCons, dNil, dTup, dNext, dAsg, dLstM, gdName, dDrop, dM, dM0, dIf, dAnd, dOr, dNot, dAndV, dOrV, dNotV, dChain, dFz, dRetF, dRetN, dBreak, dCont, dCB, gdTup, gdCons, gdNil, gdSub, dNeg, dAug, dAugS, dFrz, dPar, dNoPart, dPart, dSlice, dYes, wipeD, i2, d1, d2, d3, startD, List.map_cons, List.map_nil, List.length_cons, List.length_nil, List.cons_append, List.nil_append, List.append_nil, List.getElem?_cons_zero, List.getElem?_cons_succ, List.getElem?_nil, List.replicate, List.set_cons_succ, List.set_cons_zero, Nat.reduceAdd, Nat.reduceSub, Nat.reduceLeDiff, run_eqi, run_nei, run_lt, run_le, run_gt, run_ge, run_addi, run_iaddi, true_and, and_true, Bool.not_eq_true, Bool.not_true, Bool.not_false, if_true, if_false, Bool.false_eq_true, ite_true, ite_false, reduceIte, reduceCtorEq, decide_eq_true_eq, decide_eq_false_iff_not, Option.isSome_some, Option.isSome_none, Bool.true_bne, Bool.false_bne]
      refine (run_app (xs := ((pic.take i).map (nearL (placesL s st) s.cam.er)).map (eL .int)) up_same (small_line ?_) ?_).2
      · rw [List.length_map, List.length_map, List.length_take]; omega
      · rw [up_up]
        refine ⟨_, (by repeat (first | exact Le.nil | apply Le.keep | apply Le.drop)), _, _, _, rfl, ?_⟩
        rw [take_sn hpi, List.map_append, List.map_append]
        rfl
  · rintro η G' ⟨a, b, c, rfl, rfl⟩
    rw [List.length_map, List.take_length]
    simp only [up_same, dl_up hf, dSeq, dIfS, dTest, dOp, dName, dC, dRet, dLstF, dCons, dNil, dTup, dNext, dAsg, dLstM, gdName, dDrop, dM, dM0, dIf, dAnd, dOr, dNot, dAndV, dOrV, dNotV, dChain, dFz, dRetF, dRetN, dBreak, dCont, dCB, gdTup, gdCons, gdNil, gdSub, dNeg, dAug, dAugS, dFrz, dPar, dNoPart, dPart, dSlice, dYes, wipeD, i2, d1, d2, d3, startD, List.map_cons, List.map_nil, List.length_cons, List.length_nil, List.cons_append, List.nil_append, List.append_nil, List.getElem?_cons_zero, List.getElem?_cons_succ, List.getElem?_nil, List.replicate, List.set_cons_succ, List.set_cons_zero, Nat.reduceAdd, Nat.reduceSub, Nat.reduceLeDiff, run_eqi, run_nei, run_lt, run_le, run_gt, run_ge, run_addi, run_iaddi, true_and, and_true, Bool.not_eq_true, Bool.not_true, Bool.not_false, if_true, if_false, Bool.false_eq_true, ite_true, ite_false, reduceIte, reduceCtorEq, decide_eq_true_eq, decide_eq_false_iff_not, Option.isSome_some, Option.isSome_none, Bool.true_bne, Bool.false_bne]
    exact q
/-! ### sure_nexts -/
theorem sureL_whr (s : Sk) (st : Pt) : sureL s st = whr (fun p => decide (inC s.cam p.1 p.2.1 (0 - s.cam.er))) (placesL s st) := by
  unfold sureL whr
  congr 1
  funext x
  by_cases h : inC s.cam x.2.1 x.2.2.1 (0 - s.cam.er)
  · rw [if_pos h, if_pos (decide_eq_true h)]
  · rw [if_neg h, if_neg (fun z => h (of_decide_eq_true z))]
theorem sure_in {s : Sk} {st : Pt} {n : Int} (h : n ∈ sureL s st) : 0 ≤ n ∧ n < s.cs.length := by
  rw [sureL_whr] at h
  obtain ⟨i, x, rfl, hi, _⟩ := whr_mem.mp h
  have := (List.getElem?_eq_some_iff.mp hi).1
  rw [pl_len] at this
  omega
theorem sure_len (s : Sk) (st : Pt) : (sureL s st).length ≤ s.cs.length := by
  rw [sureL_whr]
  refine Nat.le_trans (whr_len _ _) (by rw [pl_len]; exact Nat.le_refl _)
theorem near_in {ps : List Pt} {er : Int} {p : Pt} {a : Int} (h : a ∈ nearL ps er p) : 0 ≤ a ∧ a < ps.length := by
  obtain ⟨i, x, rfl, hi, _⟩ := whr_mem.mp h
  have := (List.getElem?_eq_some_iff.mp hi).1
  omega
def bkS (s : Sk) (pic : List Pt) (st : Pt) : List (List Int) := (sureL s st).map (nxt (bkN (nxL s pic st) s.cs.length))
def sp_sure_nexts : DRn := fun ds G Q => ∃ (s : Sk) (pic : List Pt) (st : Pt), ds = [sD s, eT e3 pic, e3 st] ∧ s.cs.length ≤ 100 ∧ pic.length ≤ 1000 ∧ Q (.nd .tup [eL .int (sureL s st), eN (bkS s pic st)]) G
abbrev N_sure_nexts : List Str := ["sky", "picture", "standing", "back", "sure", "number"]
def T_sure_nexts : DTS :=
    (dSeq (dAsg (dCB sp_turned_round (dCons (dCB sp_nexts_of (dCons (dName 0) (dCons (dName 1) (dCons (dName 2) dNil)))) (dCons (dCB dLen (dCons (dFld CA.Ground "craters" (dFld CA.Sky "ground" (dName 0))) dNil)) dNil))) (gdName 3))
    (dSeq (dAsg (dMeth CA.Sky "sure_craters" sp_Sky_sure_craters (dName 0) (dCons (dName 2) dNil)) (gdName 4))
    (dRet (dTup (dCons (dName 4) (dCons (dFz (dLc (diSeq (dName 4)) (gdName 5) dYes (dOp dIx (dName 3) (dName 5)) [5])) dNil))))))
theorem len_sure_nexts : ∀ ds G Q, sp_sure_nexts ds G Q → ds.length = 3 := fun ds G Q ⟨c, x, y, e, _⟩ => by rw [e]; rfl
theorem run_len_nd {k : List D} {G : DHp} {Q : DVK} : dLen [.nd .tup k] G Q = Q (.int k.length) G := rfl
theorem run_sure_nexts : ∀ ds G Q, sp_sure_nexts ds G Q → T_sure_nexts { nx := fun _ G' => Q .non G', rt := Q } (startD N_sure_nexts ds) G := fun ds G Q h => by
  obtain ⟨s, pic, st, rfl, hl, hp, q⟩ := h
  simp only [T_sure_nexts, N_sure_nexts, dMeth, dFld, fl_ground, fl_craters, dSeq, dIfS, dTest, dOp, dName, dC, dRet, dLstF, dCons, dNil, dTup, dNext, dAsg, dLstM, gdName, dDrop, dM, dM0, dIf, dAnd, dOr, dNot, dAndV, dOrV, dNotV, dChain, dFz, dRetF, dRetN, dBreak, dCont, dCB, gdTup, gdCons, gdNil, gdSub, dNeg, dAug, dAugS, dFrz, dPar, dNoPart, dPart, dSlice, dYes, wipeD, i2, d1, d2, d3, startD, List.map_cons, List.map_nil, List.length_cons, List.length_nil, List.cons_append, List.nil_append, List.append_nil, List.getElem?_cons_zero, List.getElem?_cons_succ, List.getElem?_nil, List.replicate, List.set_cons_succ, List.set_cons_zero, Nat.reduceAdd, Nat.reduceSub, Nat.reduceLeDiff, run_eqi, run_nei, run_lt, run_le, run_gt, run_ge, run_addi, run_iaddi, true_and, and_true, Bool.not_eq_true, Bool.not_true, Bool.not_false, if_true, if_false, Bool.false_eq_true, ite_true, ite_false, reduceIte, reduceCtorEq, decide_eq_true_eq, decide_eq_false_iff_not, Option.isSome_some, Option.isSome_none, Bool.true_bne, Bool.false_bne]
  refine ⟨s, pic, st, rfl, hl, hp, ?_⟩
  simp only [run_len_eT, dSeq, dIfS, dTest, dOp, dName, dC, dRet, dLstF, dCons, dNil, dTup, dNext, dAsg, dLstM, gdName, dDrop, dM, dM0, dIf, dAnd, dOr, dNot, dAndV, dOrV, dNotV, dChain, dFz, dRetF, dRetN, dBreak, dCont, dCB, gdTup, gdCons, gdNil, gdSub, dNeg, dAug, dAugS, dFrz, dPar, dNoPart, dPart, dSlice, dYes, wipeD, i2, d1, d2, d3, startD, List.map_cons, List.map_nil, List.length_cons, List.length_nil, List.cons_append, List.nil_append, List.append_nil, List.getElem?_cons_zero, List.getElem?_cons_succ, List.getElem?_nil, List.replicate, List.set_cons_succ, List.set_cons_zero, Nat.reduceAdd, Nat.reduceSub, Nat.reduceLeDiff, run_eqi, run_nei, run_lt, run_le, run_gt, run_ge, run_addi, run_iaddi, true_and, and_true, Bool.not_eq_true, Bool.not_true, Bool.not_false, if_true, if_false, Bool.false_eq_true, ite_true, ite_false, reduceIte, reduceCtorEq, decide_eq_true_eq, decide_eq_false_iff_not, Option.isSome_some, Option.isSome_none, Bool.true_bne, Bool.false_bne]
  refine ⟨nxL s pic st, s.cs.length, rfl, rfl, ⟨by omega, by omega⟩, by unfold nxL; rw [List.length_map]; exact hp, ?_, ?_, ?_⟩
  · intro r hr
    obtain ⟨p, _, rfl⟩ := List.mem_map.mp hr
    exact Nat.le_trans (whr_len _ _) (by rw [pl_len]; omega)
  · intro r hr a ha
    obtain ⟨p, _, rfl⟩ := List.mem_map.mp hr
    have := near_in ha
    rw [pl_len] at this
    exact this
  · refine ⟨ins_sky (by decide), s, st, rfl, hl, ?_⟩
    simp only [dLc, diSeq, eL, dSeq, dIfS, dTest, dOp, dName, dC, dRet, dLstF, dCons, dNil, dTup, dNext, dAsg, dLstM, gdName, dDrop, dM, dM0, dIf, dAnd, dOr, dNot, dAndV, dOrV, dNotV, dChain, dFz, dRetF, dRetN, dBreak, dCont, dCB, gdTup, gdCons, gdNil, gdSub, dNeg, dAug, dAugS, dFrz, dPar, dNoPart, dPart, dSlice, dYes, wipeD, i2, d1, d2, d3, startD, List.map_cons, List.map_nil, List.length_cons, List.length_nil, List.cons_append, List.nil_append, List.append_nil, List.getElem?_cons_zero, List.getElem?_cons_succ, List.getElem?_nil, List.replicate, List.set_cons_succ, List.set_cons_zero, Nat.reduceAdd, Nat.reduceSub, Nat.reduceLeDiff, run_eqi, run_nei, run_lt, run_le, run_gt, run_ge, run_addi, run_iaddi, true_and, and_true, Bool.not_eq_true, Bool.not_true, Bool.not_false, if_true, if_false, Bool.false_eq_true, ite_true, ite_false, reduceIte, reduceCtorEq, decide_eq_true_eq, decide_eq_false_iff_not, Option.isSome_some, Option.isSome_none, Bool.true_bne, Bool.false_bne]
    intro p hpn
    refine ⟨fun i acc G' => acc = (((sureL s st).take i).map (nxt (bkN (nxL s pic st) s.cs.length))).map (eL .int) ∧ G' = up G p (.lst acc), ⟨rfl, rfl⟩, ?_, ?_, ?_⟩
    · rintro i acc G' ⟨rfl, rfl⟩
      exact ⟨trivial, up_same⟩
    · rintro i d acc G' hd ⟨rfl, rfl⟩
      obtain ⟨n, hn, rfl⟩ := get_map hd
      obtain ⟨n0, n1⟩ := sure_in (List.mem_of_getElem? hn)
      simp only [dSeq, dIfS, dTest, dOp, dName, dC, dRet, dLstF, dCons, dNil, dTup, dNext, dAsg, dLstM, gdName, dDrop, dM, dM0, dIf, dAnd, dOr, dNot, dAndV, dOrV, dNotV, dChain, dFz, dRetF, dRetN, dBreak, dCont, dCB, gdTup, gdCons, gdNil, gdSub, dNeg, dAug, dAugS, dFrz, dPar, dNoPart, dPart, dSlice, dYes, wipeD, i2, d1, d2, d3, startD, List.map_cons, List.map_nil, List.length_cons, List.length_nil, List.cons_append, List.nil_append, List.append_nil, List.getElem?_cons_zero, List.getElem?_cons_succ, List.getElem?_nil, List.replicate, List.set_cons_succ, List.set_cons_zero, Nat.reduceAdd, Nat.reduceSub, Nat.reduceLeDiff, run_eqi, run_nei, run_lt, run_le, run_gt, run_ge, run_addi, run_iaddi, true_and, and_true, Bool.not_eq_true, Bool.not_true, Bool.not_false, if_true, if_false, Bool.false_eq_true, ite_true, ite_false, reduceIte, reduceCtorEq, decide_eq_true_eq, decide_eq_false_iff_not, Option.isSome_some, Option.isSome_none, Bool.true_bne, Bool.false_bne]
      refine run_ixL (f := eL .int) n0 (nxt_at ⟨n0, by rw [bk_len]; omega⟩) ?_
      refine ⟨small_line ?_, up_same, ?_, by rw [up_up]⟩
      · rw [List.length_map, List.length_map, List.length_take]
        have := sure_len s st
        omega
      · rw [take_sn hn, List.map_append, List.map_append]; rfl
    · rintro acc G' ⟨rfl, rfl⟩
      rw [List.length_map, List.take_length]
      simp only [up_same, dl_up hpn, dSeq, dIfS, dTest, dOp, dName, dC, dRet, dLstF, dCons, dNil, dTup, dNext, dAsg, dLstM, gdName, dDrop, dM, dM0, dIf, dAnd, dOr, dNot, dAndV, dOrV, dNotV, dChain, dFz, dRetF, dRetN, dBreak, dCont, dCB, gdTup, gdCons, gdNil, gdSub, dNeg, dAug, dAugS, dFrz, dPar, dNoPart, dPart, dSlice, dYes, wipeD, i2, d1, d2, d3, startD, List.map_cons, List.map_nil, List.length_cons, List.length_nil, List.cons_append, List.nil_append, List.append_nil, List.getElem?_cons_zero, List.getElem?_cons_succ, List.getElem?_nil, List.replicate, List.set_cons_succ, List.set_cons_zero, Nat.reduceAdd, Nat.reduceSub, Nat.reduceLeDiff, run_eqi, run_nei, run_lt, run_le, run_gt, run_ge, run_addi, run_iaddi, true_and, and_true, Bool.not_eq_true, Bool.not_true, Bool.not_false, if_true, if_false, Bool.false_eq_true, ite_true, ite_false, reduceIte, reduceCtorEq, decide_eq_true_eq, decide_eq_false_iff_not, Option.isSome_some, Option.isSome_none, Bool.true_bne, Bool.false_bne]
      exact q
end M
namespace M
open PySem PySem.Spec PyProof.Rows L2 DL
variable [CA]

/-! ### against, fits -/
def FitA (s : Sk) (pic : List Pt) (st : Pt) : Prop := ∃ P, Mt (nxL s pic st) P ∧ (pic.length : Int) - s.cam.fa ≤ P.length
def FitB (s : Sk) (pic : List Pt) (st : Pt) : Prop := ∃ P, Mt (bkS s pic st) P ∧ ((sureL s st).length : Int) - s.cam.lo ≤ P.length
def FitP (s : Sk) (pic : List Pt) (st : Pt) : Prop := FitA s pic st ∧ FitB s pic st
noncomputable def fitb (s : Sk) (pic : List Pt) (st : Pt) : Bool := @decide (FitP s pic st) (Classical.propDecidable _)
theorem fitb_iff {s : Sk} {pic : List Pt} {st : Pt} : fitb s pic st = true ↔ FitP s pic st := by
  unfold fitb; exact @decide_eq_true_iff _ (Classical.propDecidable _)
theorem nx_len (s : Sk) (pic : List Pt) (st : Pt) : (nxL s pic st).length = pic.length := List.length_map ..
theorem bkS_len (s : Sk) (pic : List Pt) (st : Pt) : (bkS s pic st).length = (sureL s st).length := List.length_map ..
theorem run_len_eK {β : Type} {f : β → D} {kvs : List (Int × β)} {G : DHp} {Q : DVK} : dLen [eK f kvs] G Q = Q (.int kvs.length) G := by
  have e : dLen [eK f kvs] G Q = Q (.int (((enc kI f kvs).map (·.1)).zip ((enc kI f kvs).map (·.2))).length) G := rfl
  rw [e, List.length_zip, List.length_map, List.length_map, Nat.min_self]
  unfold enc
  rw [List.length_map]
def pprP (K : List Int) : D := .nd .tup [.str "points", eT .int (srtT .int K)]
def pprC (su K : List Int) : D := .nd .tup [.str "craters", eT .int ((srtT .int K).map fun a => (su[a.toNat]?).getD 0)]
def sp_against : DRn := fun ds G Q => ∃ (s : Sk) (pic : List Pt) (st : Pt), ds = [sD s, eT e3 pic, e3 st] ∧ s.cs.length ≤ 100 ∧ pic.length ≤ 1000 ∧ (FitP s pic st → Q .non G) ∧
  (∀ P K, Gr (nxL s pic st) P (nxL s pic st).length → Sw (nxL s pic st) P K [] → (P.length : Int) < pic.length - s.cam.fa → Q (pprP K) G) ∧
  ∀ P K, FitA s pic st → Gr (bkS s pic st) P (bkS s pic st).length → Sw (bkS s pic st) P K [] → (P.length : Int) < (sureL s st).length - s.cam.lo → Q (pprC (sureL s st) K) G
abbrev N_against : List Str := ["sky", "picture", "standing", "nexts", "points", "sure", "backs", "craters", "at"]
def T_against : DTS :=
    (dSeq (dAsg (dCB sp_nexts_of (dCons (dName 0) (dCons (dName 1) (dCons (dName 2) dNil)))) (gdName 3))
    (dSeq (dAsg (dCB sp_greatest (dCons (dName 3) dNil)) (gdName 4))
    (dSeq (dIfS (dTest (dOp dLt (dCB dLen (dCons (dName 4) dNil)) (dOp dSub (dCB dLen (dCons (dName 1) dNil)) (dFld CA.Camera "false" (dFld CA.Sky "camera" (dName 0))))))
    (dRet (dTup (dCons (dC (.str "points")) (dCons (dCB dTuple (dCons (dCB sp_short_lot (dCons (dName 3) (dCons (dName 4) dNil))) dNil)) dNil))))
    dNext)
    (dSeq (dAsg (dCB sp_sure_nexts (dCons (dName 0) (dCons (dName 1) (dCons (dName 2) dNil)))) (gdTup (gdCons (gdName 5) (gdCons (gdName 6) gdNil)) 2))
    (dSeq (dAsg (dCB sp_greatest (dCons (dName 6) dNil)) (gdName 7))
    (dSeq (dIfS (dTest (dOp dLt (dCB dLen (dCons (dName 7) dNil)) (dOp dSub (dCB dLen (dCons (dName 5) dNil)) (dFld CA.Camera "lost" (dFld CA.Sky "camera" (dName 0))))))
    (dRet (dTup (dCons (dC (.str "craters")) (dCons (dCB dTuple (dCons (dFz (dLc (diSeq (dCB sp_short_lot (dCons (dName 6) (dCons (dName 7) dNil)))) (gdName 8) dYes (dOp dIx (dName 5) (dName 8)) [8])) dNil)) dNil))))
    dNext)
    (dRet (dC .non))))))))
theorem len_against : ∀ ds G Q, sp_against ds G Q → ds.length = 3 := fun ds G Q ⟨c, x, y, e, _⟩ => by rw [e]; rfl
theorem Sw.inS {N : List (List Int)} {P : List (Int × Int)} {K : List Int} (h : Sw N P K []) {a : Int} (ha : a ∈ srtT .int K) : InR N a :=
  un_inR (h.un a ((srtT_perm .int K).mem_iff.mp ha))
theorem srt_len2 (K : List Int) : (srtT .int K).length = K.length := (srtT_perm .int K).length_eq
theorem run_tupL {α : Type} {f : α → D} {xs : List α} {G : DHp} {Q : DVK} : dTuple [eL f xs] G Q = Q (eT f xs) G := rfl
theorem run_against : ∀ ds G Q, sp_against ds G Q → T_against { nx := fun _ G' => Q .non G', rt := Q } (startD N_against ds) G := fun ds G Q h => by
  obtain ⟨s, pic, st, rfl, hl, hp, q1, q2, q3⟩ := h
  simp only [T_against, N_against, dSeq, dIfS, dTest, dOp, dName, dC, dRet, dLstF, dCons, dNil, dTup, dNext, dAsg, dLstM, gdName, dDrop, dM, dM0, dIf, dAnd, dOr, dNot, dAndV, dOrV, dNotV, dChain, dFz, dRetF, dRetN, dBreak, dCont, dCB, gdTup, gdCons, gdNil, gdSub, dNeg, dAug, dAugS, dFrz, dPar, dNoPart, dPart, dSlice, dYes, wipeD, i2, d1, d2, d3, startD, List.map_cons, List.map_nil, List.length_cons, List.length_nil, List.cons_append, List.nil_append, List.append_nil, List.getElem?_cons_zero, List.getElem?_cons_succ, List.getElem?_nil, List.replicate, List.set_cons_succ, List.set_cons_zero, Nat.reduceAdd, Nat.reduceSub, Nat.reduceLeDiff, run_eqi, run_nei, run_lt, run_le, run_gt, run_ge, run_addi, run_iaddi, true_and, and_true, Bool.not_eq_true, Bool.not_true, Bool.not_false, if_true, if_false, Bool.false_eq_true, ite_true, ite_false, reduceIte, reduceCtorEq, decide_eq_true_eq, decide_eq_false_iff_not, Option.isSome_some, Option.isSome_none, Bool.true_bne, Bool.false_bne]
  refine ⟨s, pic, st, rfl, hl, hp, ?_⟩
  simp only [dSeq, dIfS, dTest, dOp, dName, dC, dRet, dLstF, dCons, dNil, dTup, dNext, dAsg, dLstM, gdName, dDrop, dM, dM0, dIf, dAnd, dOr, dNot, dAndV, dOrV, dNotV, dChain, dFz, dRetF, dRetN, dBreak, dCont, dCB, gdTup, gdCons, gdNil, gdSub, dNeg, dAug, dAugS, dFrz, dPar, dNoPart, dPart, dSlice, dYes, wipeD, i2, d1, d2, d3, startD, List.map_cons, List.map_nil, List.length_cons, List.length_nil, List.cons_append, List.nil_append, List.append_nil, List.getElem?_cons_zero, List.getElem?_cons_succ, List.getElem?_nil, List.replicate, List.set_cons_succ, List.set_cons_zero, Nat.reduceAdd, Nat.reduceSub, Nat.reduceLeDiff, run_eqi, run_nei, run_lt, run_le, run_gt, run_ge, run_addi, run_iaddi, true_and, and_true, Bool.not_eq_true, Bool.not_true, Bool.not_false, if_true, if_false, Bool.false_eq_true, ite_true, ite_false, reduceIte, reduceCtorEq, decide_eq_true_eq, decide_eq_false_iff_not, Option.isSome_some, Option.isSome_none, Bool.true_bne, Bool.false_bne]
  refine ⟨nxL s pic st, rfl, by rw [nx_len]; exact hp, fun P gr => ?_⟩
  simp only [run_len_eK, run_len_eT, dFld, fl_camera, fl_false, sw_len, dSeq, dIfS, dTest, dOp, dName, dC, dRet, dLstF, dCons, dNil, dTup, dNext, dAsg, dLstM, gdName, dDrop, dM, dM0, dIf, dAnd, dOr, dNot, dAndV, dOrV, dNotV, dChain, dFz, dRetF, dRetN, dBreak, dCont, dCB, gdTup, gdCons, gdNil, gdSub, dNeg, dAug, dAugS, dFrz, dPar, dNoPart, dPart, dSlice, dYes, wipeD, i2, d1, d2, d3, startD, List.map_cons, List.map_nil, List.length_cons, List.length_nil, List.cons_append, List.nil_append, List.append_nil, List.getElem?_cons_zero, List.getElem?_cons_succ, List.getElem?_nil, List.replicate, List.set_cons_succ, List.set_cons_zero, Nat.reduceAdd, Nat.reduceSub, Nat.reduceLeDiff, run_eqi, run_nei, run_lt, run_le, run_gt, run_ge, run_addi, run_iaddi, true_and, and_true, Bool.not_eq_true, Bool.not_true, Bool.not_false, if_true, if_false, Bool.false_eq_true, ite_true, ite_false, reduceIte, reduceCtorEq, decide_eq_true_eq, decide_eq_false_iff_not, Option.isSome_some, Option.isSome_none, Bool.true_bne, Bool.false_bne]
  by_cases h1 : (P.length : Int) < pic.length - s.cam.fa
  · rw [if_pos h1]
    refine ⟨nxL s pic st, P, rfl, rfl, by rw [nx_len]; exact hp, gr, fun K sw => ?_⟩
    simp only [run_tupL, dSeq, dIfS, dTest, dOp, dName, dC, dRet, dLstF, dCons, dNil, dTup, dNext, dAsg, dLstM, gdName, dDrop, dM, dM0, dIf, dAnd, dOr, dNot, dAndV, dOrV, dNotV, dChain, dFz, dRetF, dRetN, dBreak, dCont, dCB, gdTup, gdCons, gdNil, gdSub, dNeg, dAug, dAugS, dFrz, dPar, dNoPart, dPart, dSlice, dYes, wipeD, i2, d1, d2, d3, startD, List.map_cons, List.map_nil, List.length_cons, List.length_nil, List.cons_append, List.nil_append, List.append_nil, List.getElem?_cons_zero, List.getElem?_cons_succ, List.getElem?_nil, List.replicate, List.set_cons_succ, List.set_cons_zero, Nat.reduceAdd, Nat.reduceSub, Nat.reduceLeDiff, run_eqi, run_nei, run_lt, run_le, run_gt, run_ge, run_addi, run_iaddi, true_and, and_true, Bool.not_eq_true, Bool.not_true, Bool.not_false, if_true, if_false, Bool.false_eq_true, ite_true, ite_false, reduceIte, reduceCtorEq, decide_eq_true_eq, decide_eq_false_iff_not, Option.isSome_some, Option.isSome_none, Bool.true_bne, Bool.false_bne]
    exact q2 P K gr sw h1
  · rw [if_neg h1]
    have fa : FitA s pic st := ⟨P, gr.mt, by omega⟩
    refine ⟨s, pic, st, rfl, hl, hp, ?_⟩
    simp only [dSeq, dIfS, dTest, dOp, dName, dC, dRet, dLstF, dCons, dNil, dTup, dNext, dAsg, dLstM, gdName, dDrop, dM, dM0, dIf, dAnd, dOr, dNot, dAndV, dOrV, dNotV, dChain, dFz, dRetF, dRetN, dBreak, dCont, dCB, gdTup, gdCons, gdNil, gdSub, dNeg, dAug, dAugS, dFrz, dPar, dNoPart, dPart, dSlice, dYes, wipeD, i2, d1, d2, d3, startD, List.map_cons, List.map_nil, List.length_cons, List.length_nil, List.cons_append, List.nil_append, List.append_nil, List.getElem?_cons_zero, List.getElem?_cons_succ, List.getElem?_nil, List.replicate, List.set_cons_succ, List.set_cons_zero, Nat.reduceAdd, Nat.reduceSub, Nat.reduceLeDiff, run_eqi, run_nei, run_lt, run_le, run_gt, run_ge, run_addi, run_iaddi, true_and, and_true, Bool.not_eq_true, Bool.not_true, Bool.not_false, if_true, if_false, Bool.false_eq_true, ite_true, ite_false, reduceIte, reduceCtorEq, decide_eq_true_eq, decide_eq_false_iff_not, Option.isSome_some, Option.isSome_none, Bool.true_bne, Bool.false_bne]
    have hsl := sure_len s st
    refine ⟨bkS s pic st, rfl, by rw [bkS_len]; omega, fun P2 gr2 => ?_⟩
    simp only [run_len_eK, run_len_eL, dFld, fl_camera, fl_lost, sw_len, dSeq, dIfS, dTest, dOp, dName, dC, dRet, dLstF, dCons, dNil, dTup, dNext, dAsg, dLstM, gdName, dDrop, dM, dM0, dIf, dAnd, dOr, dNot, dAndV, dOrV, dNotV, dChain, dFz, dRetF, dRetN, dBreak, dCont, dCB, gdTup, gdCons, gdNil, gdSub, dNeg, dAug, dAugS, dFrz, dPar, dNoPart, dPart, dSlice, dYes, wipeD, i2, d1, d2, d3, startD, List.map_cons, List.map_nil, List.length_cons, List.length_nil, List.cons_append, List.nil_append, List.append_nil, List.getElem?_cons_zero, List.getElem?_cons_succ, List.getElem?_nil, List.replicate, List.set_cons_succ, List.set_cons_zero, Nat.reduceAdd, Nat.reduceSub, Nat.reduceLeDiff, run_eqi, run_nei, run_lt, run_le, run_gt, run_ge, run_addi, run_iaddi, true_and, and_true, Bool.not_eq_true, Bool.not_true, Bool.not_false, if_true, if_false, Bool.false_eq_true, ite_true, ite_false, reduceIte, reduceCtorEq, decide_eq_true_eq, decide_eq_false_iff_not, Option.isSome_some, Option.isSome_none, Bool.true_bne, Bool.false_bne]
    by_cases h2 : (P2.length : Int) < (sureL s st).length - s.cam.lo
    · rw [if_pos h2]
      simp only [dLc, diSeq, dSeq, dIfS, dTest, dOp, dName, dC, dRet, dLstF, dCons, dNil, dTup, dNext, dAsg, dLstM, gdName, dDrop, dM, dM0, dIf, dAnd, dOr, dNot, dAndV, dOrV, dNotV, dChain, dFz, dRetF, dRetN, dBreak, dCont, dCB, gdTup, gdCons, gdNil, gdSub, dNeg, dAug, dAugS, dFrz, dPar, dNoPart, dPart, dSlice, dYes, wipeD, i2, d1, d2, d3, startD, List.map_cons, List.map_nil, List.length_cons, List.length_nil, List.cons_append, List.nil_append, List.append_nil, List.getElem?_cons_zero, List.getElem?_cons_succ, List.getElem?_nil, List.replicate, List.set_cons_succ, List.set_cons_zero, Nat.reduceAdd, Nat.reduceSub, Nat.reduceLeDiff, run_eqi, run_nei, run_lt, run_le, run_gt, run_ge, run_addi, run_iaddi, true_and, and_true, Bool.not_eq_true, Bool.not_true, Bool.not_false, if_true, if_false, Bool.false_eq_true, ite_true, ite_false, reduceIte, reduceCtorEq, decide_eq_true_eq, decide_eq_false_iff_not, Option.isSome_some, Option.isSome_none, Bool.true_bne, Bool.false_bne]
      refine ⟨bkS s pic st, P2, rfl, rfl, by rw [bkS_len]; omega, gr2, fun K sw => ?_⟩
      unfold eL
      dsimp only
      intro p hpn
      refine ⟨fun i acc G' => acc = (((srtT .int K).take i).map fun a => ((sureL s st)[a.toNat]?).getD 0).map .int ∧ G' = up G p (.lst acc), ⟨rfl, rfl⟩, ?_, ?_, ?_⟩
      · rintro i acc G' ⟨rfl, rfl⟩
        exact ⟨trivial, up_same⟩
      · rintro i d acc G' hd ⟨rfl, rfl⟩
        obtain ⟨n, hn, rfl⟩ := get_map hd
        obtain ⟨n0, n1⟩ := sw.inS (List.mem_of_getElem? hn)
        rw [bkS_len] at n1
        simp only [dSeq, dIfS, dTest, dOp, dName, dC, dRet, dLstF, dCons, dNil, dTup, dNext, dAsg, dLstM, gdName, dDrop, dM, dM0, dIf, dAnd, dOr, dNot, dAndV, dOrV, dNotV, dChain, dFz, dRetF, dRetN, dBreak, dCont, dCB, gdTup, gdCons, gdNil, gdSub, dNeg, dAug, dAugS, dFrz, dPar, dNoPart, dPart, dSlice, dYes, wipeD, i2, d1, d2, d3, startD, List.map_cons, List.map_nil, List.length_cons, List.length_nil, List.cons_append, List.nil_append, List.append_nil, List.getElem?_cons_zero, List.getElem?_cons_succ, List.getElem?_nil, List.replicate, List.set_cons_succ, List.set_cons_zero, Nat.reduceAdd, Nat.reduceSub, Nat.reduceLeDiff, run_eqi, run_nei, run_lt, run_le, run_gt, run_ge, run_addi, run_iaddi, true_and, and_true, Bool.not_eq_true, Bool.not_true, Bool.not_false, if_true, if_false, Bool.false_eq_true, ite_true, ite_false, reduceIte, reduceCtorEq, decide_eq_true_eq, decide_eq_false_iff_not, Option.isSome_some, Option.isSome_none, Bool.true_bne, Bool.false_bne]
        refine run_ixL (f := .int) n0 (x := ((sureL s st)[n.toNat]?).getD 0) (by rw [List.getElem?_eq_getElem (by omega)]; rfl) ?_
        refine ⟨small_line ?_, up_same, ?_, by rw [up_up]⟩
        · rw [List.length_map, List.length_map, List.length_take]
          have := un_len sw.nd sw.un
          rw [bkS_len] at this
          rw [srt_len2]
          omega
        · rw [take_sn hn, List.map_append, List.map_append]; rfl
      · rintro acc G' ⟨rfl, rfl⟩
        rw [List.length_map, List.take_length]
        simp only [up_same, dl_up hpn, dSeq, dIfS, dTest, dOp, dName, dC, dRet, dLstF, dCons, dNil, dTup, dNext, dAsg, dLstM, gdName, dDrop, dM, dM0, dIf, dAnd, dOr, dNot, dAndV, dOrV, dNotV, dChain, dFz, dRetF, dRetN, dBreak, dCont, dCB, gdTup, gdCons, gdNil, gdSub, dNeg, dAug, dAugS, dFrz, dPar, dNoPart, dPart, dSlice, dYes, wipeD, i2, d1, d2, d3, startD, List.map_cons, List.map_nil, List.length_cons, List.length_nil, List.cons_append, List.nil_append, List.append_nil, List.getElem?_cons_zero, List.getElem?_cons_succ, List.getElem?_nil, List.replicate, List.set_cons_succ, List.set_cons_zero, Nat.reduceAdd, Nat.reduceSub, Nat.reduceLeDiff, run_eqi, run_nei, run_lt, run_le, run_gt, run_ge, run_addi, run_iaddi, true_and, and_true, Bool.not_eq_true, Bool.not_true, Bool.not_false, if_true, if_false, Bool.false_eq_true, ite_true, ite_false, reduceIte, reduceCtorEq, decide_eq_true_eq, decide_eq_false_iff_not, Option.isSome_some, Option.isSome_none, Bool.true_bne, Bool.false_bne]
        exact q3 P2 K fa gr2 sw h2
    · rw [if_neg h2]
      exact q1 ⟨fa, P2, gr2.mt, by omega⟩
def sp_fits : DRn := fun ds G Q => ∃ (s : Sk) (pic : List Pt) (st : Pt), ds = [sD s, eT e3 pic, e3 st] ∧ s.cs.length ≤ 100 ∧ pic.length ≤ 1000 ∧ Q (.bl (fitb s pic st)) G
abbrev N_fits : List Str := ["sky", "picture", "standing"]
def T_fits : DTS :=
    (dRet (dOp (dIsN false) (dCB sp_against (dCons (dName 0) (dCons (dName 1) (dCons (dName 2) dNil)))) (dC .non)))
theorem len_fits : ∀ ds G Q, sp_fits ds G Q → ds.length = 3 := fun ds G Q ⟨c, x, y, e, _⟩ => by rw [e]; rfl
theorem not_fitA {s : Sk} {pic : List Pt} {st : Pt} {P : List (Int × Int)} (g : Gr (nxL s pic st) P (nxL s pic st).length) (h : (P.length : Int) < pic.length - s.cam.fa) : ¬ FitA s pic st := by
  rintro ⟨P', m, h'⟩
  have := g.max m
  omega
theorem not_fitB {s : Sk} {pic : List Pt} {st : Pt} {P : List (Int × Int)} (g : Gr (bkS s pic st) P (bkS s pic st).length) (h : (P.length : Int) < (sureL s st).length - s.cam.lo) : ¬ FitB s pic st := by
  rintro ⟨P', m, h'⟩
  have := g.max m
  omega
theorem fitb_no {s : Sk} {pic : List Pt} {st : Pt} (h : ¬ FitP s pic st) : fitb s pic st = false := by
  cases e : fitb s pic st with
  | false => rfl
  | true => exact absurd (fitb_iff.mp e) h
theorem run_fits : ∀ ds G Q, sp_fits ds G Q → T_fits { nx := fun _ G' => Q .non G', rt := Q } (startD N_fits ds) G := fun ds G Q h => by
  obtain ⟨s, pic, st, rfl, hl, hp, q⟩ := h
  simp only [T_fits, N_fits, dSeq, dIfS, dTest, dOp, dName, dC, dRet, dLstF, dCons, dNil, dTup, dNext, dAsg, dLstM, gdName, dDrop, dM, dM0, dIf, dAnd, dOr, dNot, dAndV, dOrV, dNotV, dChain, dFz, dRetF, dRetN, dBreak, dCont, dCB, gdTup, gdCons, gdNil, gdSub, dNeg, dAug, dAugS, dFrz, dPar, dNoPart, dPart, dSlice, dYes, wipeD, i2, d1, d2, d3, startD, List.map_cons, List.map_nil, List.length_cons, List.length_nil, List.cons_append, List.nil_append, List.append_nil, List.getElem?_cons_zero, List.getElem?_cons_succ, List.getElem?_nil, List.replicate, List.set_cons_succ, List.set_cons_zero, Nat.reduceAdd, Nat.reduceSub, Nat.reduceLeDiff, run_eqi, run_nei, run_lt, run_le, run_gt, run_ge, run_addi, run_iaddi, true_and, and_true, Bool.not_eq_true, Bool.not_true, Bool.not_false, if_true, if_false, Bool.false_eq_true, ite_true, ite_false, reduceIte, reduceCtorEq, decide_eq_true_eq, decide_eq_false_iff_not, Option.isSome_some, Option.isSome_none, Bool.true_bne, Bool.false_bne]
  refine ⟨s, pic, st, rfl, hl, hp, fun f => ?_, fun P K g sw h => ?_, fun P K fa g sw h => ?_⟩
  · show dIsN false .non .non G Q
    rw [is_non, ← fitb_iff.mpr f]
    exact q
  · show dIsN false (pprP K) .non G Q
    unfold pprP
    rw [is_nd, ← fitb_no (fun z : FitP s pic st => not_fitA g h z.1)]
    exact q
  · show dIsN false (pprC (sureL s st) K) .non G Q
    unfold pprC
    rw [is_nd, ← fitb_no (fun z : FitP s pic st => not_fitB g h z.2)]
    exact q
/-! ### plain_reading -/
noncomputable def readL (s : Sk) (pic : List Pt) : List Pt := (standL s).filter (fitb s pic)
def sp_plain_reading : DRn := fun ds G Q => ∃ (s : Sk) (pic : List Pt), ds = [sD s, eT e3 pic] ∧ OkSk s ∧ okPic s.cam pic ∧ pic.length ≤ 1000 ∧ Q (eT e3 (readL s pic)) G
abbrev N_plain_reading : List Str := ["sky", "picture", "standing"]
def T_plain_reading : DTS :=
    (dSeq (dDrop (dMeth CA.Camera "check_picture" sp_Camera_check_picture (dFld CA.Sky "camera" (dName 0)) (dCons (dName 1) dNil)))
    (dRet (dCB dTuple (dCons (dFz (dLc (diSeq (dMeth CA.Sky "standings" sp_Sky_standings (dName 0) dNil)) (gdName 2) (dTest (dCB sp_fits (dCons (dName 0) (dCons (dName 1) (dCons (dName 2) dNil))))) (dName 2) [2])) dNil))))
theorem len_plain_reading : ∀ ds G Q, sp_plain_reading ds G Q → ds.length = 2 := fun ds G Q ⟨c, x, e, _⟩ => by rw [e]; rfl
theorem stand_len' {s : Sk} (h : OkSk s) : (standL s).length ≤ 40000 := by
  have := stand_len h s.tu.length
  rw [List.take_length] at this
  exact this
theorem run_plain_reading : ∀ ds G Q, sp_plain_reading ds G Q → T_plain_reading { nx := fun _ G' => Q .non G', rt := Q } (startD N_plain_reading ds) G := fun ds G Q h => by
  obtain ⟨s, pic, rfl, ok, okp, hp, q⟩ := h
  simp only [T_plain_reading, N_plain_reading, dMeth, dFld, fl_camera, dSeq, dIfS, dTest, dOp, dName, dC, dRet, dLstF, dCons, dNil, dTup, dNext, dAsg, dLstM, gdName, dDrop, dM, dM0, dIf, dAnd, dOr, dNot, dAndV, dOrV, dNotV, dChain, dFz, dRetF, dRetN, dBreak, dCont, dCB, gdTup, gdCons, gdNil, gdSub, dNeg, dAug, dAugS, dFrz, dPar, dNoPart, dPart, dSlice, dYes, wipeD, i2, d1, d2, d3, startD, List.map_cons, List.map_nil, List.length_cons, List.length_nil, List.cons_append, List.nil_append, List.append_nil, List.getElem?_cons_zero, List.getElem?_cons_succ, List.getElem?_nil, List.replicate, List.set_cons_succ, List.set_cons_zero, Nat.reduceAdd, Nat.reduceSub, Nat.reduceLeDiff, run_eqi, run_nei, run_lt, run_le, run_gt, run_ge, run_addi, run_iaddi, true_and, and_true, Bool.not_eq_true, Bool.not_true, Bool.not_false, if_true, if_false, Bool.false_eq_true, ite_true, ite_false, reduceIte, reduceCtorEq, decide_eq_true_eq, decide_eq_false_iff_not, Option.isSome_some, Option.isSome_none, Bool.true_bne, Bool.false_bne]
  refine ⟨ins_cam (by decide), s.cam, pic, rfl, okp, ?_⟩
  simp only [dLc, diSeq, dMeth, dSeq, dIfS, dTest, dOp, dName, dC, dRet, dLstF, dCons, dNil, dTup, dNext, dAsg, dLstM, gdName, dDrop, dM, dM0, dIf, dAnd, dOr, dNot, dAndV, dOrV, dNotV, dChain, dFz, dRetF, dRetN, dBreak, dCont, dCB, gdTup, gdCons, gdNil, gdSub, dNeg, dAug, dAugS, dFrz, dPar, dNoPart, dPart, dSlice, dYes, wipeD, i2, d1, d2, d3, startD, List.map_cons, List.map_nil, List.length_cons, List.length_nil, List.cons_append, List.nil_append, List.append_nil, List.getElem?_cons_zero, List.getElem?_cons_succ, List.getElem?_nil, List.replicate, List.set_cons_succ, List.set_cons_zero, Nat.reduceAdd, Nat.reduceSub, Nat.reduceLeDiff, run_eqi, run_nei, run_lt, run_le, run_gt, run_ge, run_addi, run_iaddi, true_and, and_true, Bool.not_eq_true, Bool.not_true, Bool.not_false, if_true, if_false, Bool.false_eq_true, ite_true, ite_false, reduceIte, reduceCtorEq, decide_eq_true_eq, decide_eq_false_iff_not, Option.isSome_some, Option.isSome_none, Bool.true_bne, Bool.false_bne]
  refine ⟨ins_sky (by decide), s, rfl, ok, ?_⟩
  unfold eT
  dsimp only
  intro p hpn
  refine ⟨fun i acc G' => acc = (((standL s).take i).filter (fitb s pic)).map e3 ∧ G' = up G p (.lst acc), ⟨rfl, rfl⟩, ?_, ?_, ?_⟩
  · rintro i acc G' ⟨rfl, rfl⟩
    exact ⟨trivial, up_same⟩
  · rintro i d acc G' hd ⟨rfl, rfl⟩
    obtain ⟨st, hst, rfl⟩ := get_map hd
    simp only [dSeq, dIfS, dTest, dOp, dName, dC, dRet, dLstF, dCons, dNil, dTup, dNext, dAsg, dLstM, gdName, dDrop, dM, dM0, dIf, dAnd, dOr, dNot, dAndV, dOrV, dNotV, dChain, dFz, dRetF, dRetN, dBreak, dCont, dCB, gdTup, gdCons, gdNil, gdSub, dNeg, dAug, dAugS, dFrz, dPar, dNoPart, dPart, dSlice, dYes, wipeD, i2, d1, d2, d3, startD, List.map_cons, List.map_nil, List.length_cons, List.length_nil, List.cons_append, List.nil_append, List.append_nil, List.getElem?_cons_zero, List.getElem?_cons_succ, List.getElem?_nil, List.replicate, List.set_cons_succ, List.set_cons_zero, Nat.reduceAdd, Nat.reduceSub, Nat.reduceLeDiff, run_eqi, run_nei, run_lt, run_le, run_gt, run_ge, run_addi, run_iaddi, true_and, and_true, Bool.not_eq_true, Bool.not_true, Bool.not_false, if_true, if_false, Bool.false_eq_true, ite_true, ite_false, reduceIte, reduceCtorEq, decide_eq_true_eq, decide_eq_false_iff_not, Option.isSome_some, Option.isSome_none, Bool.true_bne, Bool.false_bne]
    refine ⟨s, pic, st, rfl, ok.cs, hp, ?_⟩
    cases e : fitb s pic st with
    | true =>
      simp only [dSeq, dIfS, dTest, dOp, dName, dC, dRet, dLstF, dCons, dNil, dTup, dNext, dAsg, dLstM, gdName, dDrop, dM, dM0, dIf, dAnd, dOr, dNot, dAndV, dOrV, dNotV, dChain, dFz, dRetF, dRetN, dBreak, dCont, dCB, gdTup, gdCons, gdNil, gdSub, dNeg, dAug, dAugS, dFrz, dPar, dNoPart, dPart, dSlice, dYes, wipeD, i2, d1, d2, d3, startD, List.map_cons, List.map_nil, List.length_cons, List.length_nil, List.cons_append, List.nil_append, List.append_nil, List.getElem?_cons_zero, List.getElem?_cons_succ, List.getElem?_nil, List.replicate, List.set_cons_succ, List.set_cons_zero, Nat.reduceAdd, Nat.reduceSub, Nat.reduceLeDiff, run_eqi, run_nei, run_lt, run_le, run_gt, run_ge, run_addi, run_iaddi, true_and, and_true, Bool.not_eq_true, Bool.not_true, Bool.not_false, if_true, if_false, Bool.false_eq_true, ite_true, ite_false, reduceIte, reduceCtorEq, decide_eq_true_eq, decide_eq_false_iff_not, Option.isSome_some, Option.isSome_none, Bool.true_bne, Bool.false_bne]
      refine ⟨small_line ?_, up_same, ?_, by rw [up_up]⟩
      · rw [List.length_map]
        refine Nat.le_trans (List.length_filter_le _ _) ?_
        rw [List.length_take]
        have := stand_len' ok
        omega
      · rw [take_sn hst, List.filter_append, List.map_append]
        simp [e]
    | false =>
      simp only [dSeq, dIfS, dTest, dOp, dName, dC, dRet, dLstF, dCons, dNil, dTup, dNext, dAsg, dLstM, gdName, dDrop, dM, dM0, dIf, dAnd, dOr, dNot, dAndV, dOrV, dNotV, dChain, dFz, dRetF, dRetN, dBreak, dCont, dCB, gdTup, gdCons, gdNil, gdSub, dNeg, dAug, dAugS, dFrz, dPar, dNoPart, dPart, dSlice, dYes, wipeD, i2, d1, d2, d3, startD, List.map_cons, List.map_nil, List.length_cons, List.length_nil, List.cons_append, List.nil_append, List.append_nil, List.getElem?_cons_zero, List.getElem?_cons_succ, List.getElem?_nil, List.replicate, List.set_cons_succ, List.set_cons_zero, Nat.reduceAdd, Nat.reduceSub, Nat.reduceLeDiff, run_eqi, run_nei, run_lt, run_le, run_gt, run_ge, run_addi, run_iaddi, true_and, and_true, Bool.not_eq_true, Bool.not_true, Bool.not_false, if_true, if_false, Bool.false_eq_true, ite_true, ite_false, reduceIte, reduceCtorEq, decide_eq_true_eq, decide_eq_false_iff_not, Option.isSome_some, Option.isSome_none, Bool.true_bne, Bool.false_bne]
      rw [take_sn hst, List.filter_append, List.map_append]
      simp [e]
  · rintro acc G' ⟨rfl, rfl⟩
    rw [List.length_map, List.take_length]
    simp only [up_same, dl_up hpn, dSeq, dIfS, dTest, dOp, dName, dC, dRet, dLstF, dCons, dNil, dTup, dNext, dAsg, dLstM, gdName, dDrop, dM, dM0, dIf, dAnd, dOr, dNot, dAndV, dOrV, dNotV, dChain, dFz, dRetF, dRetN, dBreak, dCont, dCB, gdTup, gdCons, gdNil, gdSub, dNeg, dAug, dAugS, dFrz, dPar, dNoPart, dPart, dSlice, dYes, wipeD, i2, d1, d2, d3, startD, List.map_cons, List.map_nil, List.length_cons, List.length_nil, List.cons_append, List.nil_append, List.append_nil, List.getElem?_cons_zero, List.getElem?_cons_succ, List.getElem?_nil, List.replicate, List.set_cons_succ, List.set_cons_zero, Nat.reduceAdd, Nat.reduceSub, Nat.reduceLeDiff, run_eqi, run_nei, run_lt, run_le, run_gt, run_ge, run_addi, run_iaddi, true_and, and_true, Bool.not_eq_true, Bool.not_true, Bool.not_false, if_true, if_false, Bool.false_eq_true, ite_true, ite_false, reduceIte, reduceCtorEq, decide_eq_true_eq, decide_eq_false_iff_not, Option.isSome_some, Option.isSome_none, Bool.true_bne, Bool.false_bne]
    exact q
end M
namespace M
open PySem PySem.Spec PyProof.Rows L2 DL
variable [CA]

/-! ### shifts_of -/
def inA (s : Sk) (sh : Int × Int) : Prop := (s.ar.1 ≤ sh.1 ∧ sh.1 ≤ s.ar.2.1) ∧ s.ar.2.2.1 ≤ sh.2 ∧ sh.2 ≤ s.ar.2.2.2
def rectL (s : Sk) : List (Int × Int) := (rangeL s.ar.1 (s.ar.2.1 + 1)).flatMap fun x => (rangeL s.ar.2.2.1 (s.ar.2.2.2 + 1)).map fun y => (x, y)
theorem rect_mem {s : Sk} {sh : Int × Int} : sh ∈ rectL s ↔ inA s sh := by
  unfold rectL inA
  rw [List.mem_flatMap]
  constructor
  · rintro ⟨x, hx, h⟩
    obtain ⟨y, hy, rfl⟩ := List.mem_map.mp h
    rw [mem_range] at hx hy
    dsimp only
    omega
  · rintro ⟨h1, h2⟩
    exact ⟨sh.1, mem_range.mpr (by omega), List.mem_map.mpr ⟨sh.2, mem_range.mpr (by omega), rfl⟩⟩
theorem rect_len {s : Sk} (h : OkSk s) : (rectL s).length ≤ 10000 := by
  unfold rectL
  refine Nat.le_trans (len_flatMap (B := 100) fun x _ => ?_) ?_
  · rw [List.length_map, len_range]; have := h.b2; omega
  · rw [len_range]; have := h.b1; omega
def shN (s : Sk) (pt : Pt) (st : Pt) : Prop := ∃ c ∈ s.cs, nearP pt (plc c st) s.cam.er
noncomputable def shb (s : Sk) (st : Pt) (pt : Pt) : Bool := @decide (shN s pt st) (Classical.propDecidable _)
theorem shb_iff {s : Sk} {st pt : Pt} : shb s st pt = true ↔ shN s pt st := by unfold shb; exact @decide_eq_true_iff _ (Classical.propDecidable _)
def sp_shifts_of : DRn := fun ds G Q => ∃ (s : Sk) (pt : Pt) (t : Int), ds = [sD s, e3 pt, .int t] ∧ OkSk s ∧ okPt 0 1000 pt ∧ ∀ kvs : List ((Int × Int) × Bool), (kvs.map (·.1)).Nodup → (∀ sh, sh ∈ kvs.map (·.1) ↔ inA s sh ∧ shN s pt (t, sh)) → Q (eD k2 .bl kvs) G
abbrev N_shifts_of : List Str := ["sky", "point", "turn", "error", "area", "found", "crater", "x", "y", "one", "other"]
def T_shifts_of : DTS :=
    (dSeq (dPar3 3 4 5 (dCons (dFld CA.Camera "error" (dFld CA.Sky "camera" (dName 0))) (dCons (dFld CA.Sky "area" (dName 0)) (dCons dNewN dNil))))
    (dSeq (dFor (diSeq (dFld CA.Ground "craters" (dFld CA.Sky "ground" (dName 0)))) (gdName 6)
    (dIfS (dTest (dOp dEq (dOp dIx (dName 6) (dC (.int 2))) (dOp dIx (dName 1) (dC (.int 2)))))
    (dSeq (dAsg (dCB sp_turned (dCons (dOp dIx (dName 6) (dC (.int 0))) (dCons (dOp dIx (dName 6) (dC (.int 1))) (dCons (dName 2) dNil)))) (gdTup (gdCons (gdName 7) (gdCons (gdName 8) gdNil)) 2))
    (dFor (diRange2 (dCons (dCB dMax2 (dCons (dOp dIx (dName 4) (dC (.int 0))) (dCons (dOp dSub (dOp dSub (dOp dIx (dName 1) (dC (.int 0))) (dName 7)) (dName 3)) dNil))) (dCons (dOp dAdd (dCB dMin2 (dCons (dOp dIx (dName 4) (dC (.int 1))) (dCons (dOp dAdd (dOp dSub (dOp dIx (dName 1) (dC (.int 0))) (dName 7)) (dName 3)) dNil))) (dC (.int 1))) dNil))) (gdName 9)
    (dFor (diRange2 (dCons (dCB dMax2 (dCons (dOp dIx (dName 4) (dC (.int 2))) (dCons (dOp dSub (dOp dSub (dOp dIx (dName 1) (dC (.int 1))) (dName 8)) (dName 3)) dNil))) (dCons (dOp dAdd (dCB dMin2 (dCons (dOp dIx (dName 4) (dC (.int 3))) (dCons (dOp dAdd (dOp dSub (dOp dIx (dName 1) (dC (.int 1))) (dName 8)) (dName 3)) dNil))) (dC (.int 1))) dNil))) (gdName 10)
    (dAsg (dC (.bl true)) (gdSub (dName 5) (dTup (dCons (dName 9) (dCons (dName 10) dNil))) dSet)))))
    dNext))
    (dRetF (dName 5))))
theorem len_shifts_of : ∀ ds G Q, sp_shifts_of ds G Q → ds.length = 3 := fun ds G Q ⟨c, x, y, e, _⟩ => by rw [e]; rfl
def mx (i j : Int) : Int := if j > i then j else i
def mn (i j : Int) : Int := if j < i then j else i
theorem run_max2 {i j : Int} {G : DHp} {Q : DVK} : dMax2 [.int i, .int j] G Q = Q (.int (mx i j)) G := rfl
theorem run_min2 {i j : Int} {G : DHp} {Q : DVK} : dMin2 [.int i, .int j] G Q = Q (.int (mn i j)) G := rfl
theorem rot_small {x y t : Int} (hx : 0 - 1000000 ≤ x ∧ x ≤ 1000000) (hy : 0 - 1000000 ≤ y ∧ y ≤ 1000000) : (-1000000 ≤ (rot x y t).1 ∧ (rot x y t).1 ≤ 1000000) ∧ -1000000 ≤ (rot x y t).2 ∧ (rot x y t).2 ≤ 1000000 := by
  unfold rot
  split
  · exact ⟨by dsimp only; omega, by dsimp only; omega⟩
  split
  · exact ⟨by dsimp only; omega, by dsimp only; omega⟩
  split
  · exact ⟨by dsimp only; omega, by dsimp only; omega⟩
  · exact ⟨by dsimp only; omega, by dsimp only; omega⟩
/-- the shifts that are looked at for one crater -/
def r1 (s : Sk) (pt c : Pt) (t : Int) : List Int := rangeL (mx s.ar.1 (pt.1 - (rot c.1 c.2.1 t).1 - s.cam.er)) (mn s.ar.2.1 (pt.1 - (rot c.1 c.2.1 t).1 + s.cam.er) + 1)
def r2 (s : Sk) (pt c : Pt) (t : Int) : List Int := rangeL (mx s.ar.2.2.1 (pt.2.1 - (rot c.1 c.2.1 t).2 - s.cam.er)) (mn s.ar.2.2.2 (pt.2.1 - (rot c.1 c.2.1 t).2 + s.cam.er) + 1)
theorem r1_mem {s : Sk} {pt c : Pt} {t a : Int} : a ∈ r1 s pt c t ↔ (s.ar.1 ≤ a ∧ a ≤ s.ar.2.1) ∧ ab (pt.1 - ((rot c.1 c.2.1 t).1 + a)) ≤ s.cam.er := by
  unfold r1 mx mn ab
  rw [mem_range]
  split <;> split <;> split <;> omega
theorem r2_mem {s : Sk} {pt c : Pt} {t a : Int} : a ∈ r2 s pt c t ↔ (s.ar.2.2.1 ≤ a ∧ a ≤ s.ar.2.2.2) ∧ ab (pt.2.1 - ((rot c.1 c.2.1 t).2 + a)) ≤ s.cam.er := by
  unfold r2 mx mn ab
  rw [mem_range]
  split <;> split <;> split <;> omega
def visC (s : Sk) (pt : Pt) (t : Int) (c : Pt) : List (Int × Int) := if c.2.2 = pt.2.2 then (r1 s pt c t).flatMap fun a => (r2 s pt c t).map fun b => (a, b) else []
theorem visC_mem {s : Sk} {pt c : Pt} {t : Int} {sh : Int × Int} : sh ∈ visC s pt t c ↔ inA s sh ∧ nearP pt (plc c (t, sh)) s.cam.er := by
  unfold visC inA nearP plc
  dsimp only
  split
  · rename_i h
    rw [List.mem_flatMap]
    constructor
    · rintro ⟨a, ha, hb⟩
      obtain ⟨b, hb', rfl⟩ := List.mem_map.mp hb
      obtain ⟨h1, h2⟩ := r1_mem.mp ha
      obtain ⟨h3, h4⟩ := r2_mem.mp hb'
      exact ⟨⟨h1, h3⟩, h.symm, h2, h4⟩
    · rintro ⟨⟨h1, h2⟩, h3, h4, h5⟩
      exact ⟨sh.1, r1_mem.mpr ⟨h1, h4⟩, List.mem_map.mpr ⟨sh.2, r2_mem.mpr ⟨h2, h5⟩, rfl⟩⟩
  · rename_i h
    constructor
    · intro z; cases z
    · rintro ⟨_, h3, _⟩; exact absurd h3.symm h
/-- the dict so far -/
structure Vd (s : Sk) (V : List (Int × Int)) (kvs : List ((Int × Int) × Bool)) : Prop where
  nd : (kvs.map (·.1)).Nodup
  mem : ∀ sh, sh ∈ kvs.map (·.1) ↔ sh ∈ V
  inn : ∀ sh ∈ V, inA s sh
theorem Vd.len {s : Sk} {V : List (Int × Int)} {kvs : List ((Int × Int) × Bool)} (ok : OkSk s) (h : Vd s V kvs) : kvs.length ≤ 10000 := by
  have := len_sub (xs := rectL s) h.nd fun y hy => rect_mem.mpr (h.inn y ((h.mem y).mp hy))
  rw [List.length_map] at this
  exact Nat.le_trans this (rect_len ok)
theorem Vd.step {s : Sk} {V : List (Int × Int)} {kvs : List ((Int × Int) × Bool)} (h : Vd s V kvs) {sh : Int × Int} (hs : inA s sh) : Vd s (V ++ [sh]) (aput kvs sh true) := by
  refine ⟨aput_nodup _ _ _ h.nd, fun c => ?_, fun c hc => ?_⟩
  · rw [aput_mem, h.mem, List.mem_append, List.mem_singleton]
  · rcases List.mem_append.mp hc with hc | hc
    · exact h.inn c hc
    · rw [List.mem_singleton] at hc; rw [hc]; exact hs
theorem ix2_0 {p : Int × Int} {G : DHp} {Q : DVK} (q : Q (.int p.1) G) : dIx (e2 p) (.int 0) G Q := run_ix (by decide) rfl q
theorem ix2_1 {p : Int × Int} {G : DHp} {Q : DVK} (q : Q (.int p.2) G) : dIx (e2 p) (.int 1) G Q := run_ix (by decide) rfl q
theorem run_shifts_of : ∀ ds G Q, sp_shifts_of ds G Q → T_shifts_of { nx := fun _ G' => Q .non G', rt := Q } (startD N_shifts_of ds) G := fun ds G Q h => by
  obtain ⟨s, pt, t, rfl, ok, okp, q⟩ := h
  simp only [T_shifts_of, N_shifts_of, dFld, fl_camera, fl_error, fl_area, dNewN, dPar3, dSeq, dIfS, dTest, dOp, dName, dC, dRet, dLstF, dCons, dNil, dTup, dNext, dAsg, dLstM, gdName, dDrop, dM, dM0, dIf, dAnd, dOr, dNot, dAndV, dOrV, dNotV, dChain, dFz, dRetF, dRetN, dBreak, dCont, dCB, gdTup, gdCons, gdNil, gdSub, dNeg, dAug, dAugS, dFrz, dPar, dNoPart, dPart, dSlice, dYes, wipeD, i2, d1, d2, d3, startD, List.map_cons, List.map_nil, List.length_cons, List.length_nil, List.cons_append, List.nil_append, List.append_nil, List.getElem?_cons_zero, List.getElem?_cons_succ, List.getElem?_nil, List.replicate, List.set_cons_succ, List.set_cons_zero, Nat.reduceAdd, Nat.reduceSub, Nat.reduceLeDiff, run_eqi, run_nei, run_lt, run_le, run_gt, run_ge, run_addi, run_iaddi, true_and, and_true, Bool.not_eq_true, Bool.not_true, Bool.not_false, if_true, if_false, Bool.false_eq_true, ite_true, ite_false, reduceIte, reduceCtorEq, decide_eq_true_eq, decide_eq_false_iff_not, Option.isSome_some, Option.isSome_none, Bool.true_bne, Bool.false_bne]
  intro p hp
  simp only [dFor, diSeq, dFld, fl_ground, fl_craters, eT, dSeq, dIfS, dTest, dOp, dName, dC, dRet, dLstF, dCons, dNil, dTup, dNext, dAsg, dLstM, gdName, dDrop, dM, dM0, dIf, dAnd, dOr, dNot, dAndV, dOrV, dNotV, dChain, dFz, dRetF, dRetN, dBreak, dCont, dCB, gdTup, gdCons, gdNil, gdSub, dNeg, dAug, dAugS, dFrz, dPar, dNoPart, dPart, dSlice, dYes, wipeD, i2, d1, d2, d3, startD, List.map_cons, List.map_nil, List.length_cons, List.length_nil, List.cons_append, List.nil_append, List.append_nil, List.getElem?_cons_zero, List.getElem?_cons_succ, List.getElem?_nil, List.replicate, List.set_cons_succ, List.set_cons_zero, Nat.reduceAdd, Nat.reduceSub, Nat.reduceLeDiff, run_eqi, run_nei, run_lt, run_le, run_gt, run_ge, run_addi, run_iaddi, true_and, and_true, Bool.not_eq_true, Bool.not_true, Bool.not_false, if_true, if_false, Bool.false_eq_true, ite_true, ite_false, reduceIte, reduceCtorEq, decide_eq_true_eq, decide_eq_false_iff_not, Option.isSome_some, Option.isSome_none, Bool.true_bne, Bool.false_bne]
  refine ⟨fun i η G' => ∃ kvs o0 o1 o2 o3 o4, η = [some (sD s), some (e3 pt), some (.int t), some (.int s.cam.er), some (e4 s.ar), some (.ref p), o0, o1, o2, o3, o4] ∧ G' = up G p (.dN (enc k2 .bl kvs)) ∧ Vd s ((s.cs.take i).flatMap (visC s pt t)) kvs, ⟨[], none, none, none, none, none, rfl, rfl, by simp, by simp, by simp⟩, fun _ _ _ _ => trivial, ?_, ?_⟩
  · rintro i d η G' hd ⟨kvs, o0, o1, o2, o3, o4, rfl, rfl, vd⟩
    obtain ⟨c, hc, rfl⟩ := get_map hd
    have okc := ok.cb c (List.mem_of_getElem? hc)
    simp only [dSeq, dIfS, dTest, dOp, dName, dC, dRet, dLstF, dCons, dNil, dTup, dNext, dAsg, dLstM, gdName, dDrop, dM, dM0, dIf, dAnd, dOr, dNot, dAndV, dOrV, dNotV, dChain, dFz, dRetF, dRetN, dBreak, dCont, dCB, gdTup, gdCons, gdNil, gdSub, dNeg, dAug, dAugS, dFrz, dPar, dNoPart, dPart, dSlice, dYes, wipeD, i2, d1, d2, d3, startD, List.map_cons, List.map_nil, List.length_cons, List.length_nil, List.cons_append, List.nil_append, List.append_nil, List.getElem?_cons_zero, List.getElem?_cons_succ, List.getElem?_nil, List.replicate, List.set_cons_succ, List.set_cons_zero, Nat.reduceAdd, Nat.reduceSub, Nat.reduceLeDiff, run_eqi, run_nei, run_lt, run_le, run_gt, run_ge, run_addi, run_iaddi, true_and, and_true, Bool.not_eq_true, Bool.not_true, Bool.not_false, if_true, if_false, Bool.false_eq_true, ite_true, ite_false, reduceIte, reduceCtorEq, decide_eq_true_eq, decide_eq_false_iff_not, Option.isSome_some, Option.isSome_none, Bool.true_bne, Bool.false_bne]
    refine ix3_2 (ix3_2 ?_)
    simp only [dSeq, dIfS, dTest, dOp, dName, dC, dRet, dLstF, dCons, dNil, dTup, dNext, dAsg, dLstM, gdName, dDrop, dM, dM0, dIf, dAnd, dOr, dNot, dAndV, dOrV, dNotV, dChain, dFz, dRetF, dRetN, dBreak, dCont, dCB, gdTup, gdCons, gdNil, gdSub, dNeg, dAug, dAugS, dFrz, dPar, dNoPart, dPart, dSlice, dYes, wipeD, i2, d1, d2, d3, startD, List.map_cons, List.map_nil, List.length_cons, List.length_nil, List.cons_append, List.nil_append, List.append_nil, List.getElem?_cons_zero, List.getElem?_cons_succ, List.getElem?_nil, List.replicate, List.set_cons_succ, List.set_cons_zero, Nat.reduceAdd, Nat.reduceSub, Nat.reduceLeDiff, run_eqi, run_nei, run_lt, run_le, run_gt, run_ge, run_addi, run_iaddi, true_and, and_true, Bool.not_eq_true, Bool.not_true, Bool.not_false, if_true, if_false, Bool.false_eq_true, ite_true, ite_false, reduceIte, reduceCtorEq, decide_eq_true_eq, decide_eq_false_iff_not, Option.isSome_some, Option.isSome_none, Bool.true_bne, Bool.false_bne]
    by_cases h1 : c.2.2 = pt.2.2
    · rw [if_pos h1]
      refine ix3_0 (ix3_1 ⟨_, _, _, rfl, rfl, rfl, ?_⟩)
      have hrt := rot_small (t := t) okc.1 okc.2.1
      obtain ⟨o1a, o2a, o3a, o4a, o5a⟩ := ok.cam
      have hb := ok.b1; have hb2 := ok.b2; have hu := ok.u1; have hu2 := ok.u2
      obtain ⟨p1, p2, p3⟩ := okp
      simp only [e2, diRange2, dSeq, dIfS, dTest, dOp, dName, dC, dRet, dLstF, dCons, dNil, dTup, dNext, dAsg, dLstM, gdName, dDrop, dM, dM0, dIf, dAnd, dOr, dNot, dAndV, dOrV, dNotV, dChain, dFz, dRetF, dRetN, dBreak, dCont, dCB, gdTup, gdCons, gdNil, gdSub, dNeg, dAug, dAugS, dFrz, dPar, dNoPart, dPart, dSlice, dYes, wipeD, i2, d1, d2, d3, startD, List.map_cons, List.map_nil, List.length_cons, List.length_nil, List.cons_append, List.nil_append, List.append_nil, List.getElem?_cons_zero, List.getElem?_cons_succ, List.getElem?_nil, List.replicate, List.set_cons_succ, List.set_cons_zero, Nat.reduceAdd, Nat.reduceSub, Nat.reduceLeDiff, run_eqi, run_nei, run_lt, run_le, run_gt, run_ge, run_addi, run_iaddi, true_and, and_true, Bool.not_eq_true, Bool.not_true, Bool.not_false, if_true, if_false, Bool.false_eq_true, ite_true, ite_false, reduceIte, reduceCtorEq, decide_eq_true_eq, decide_eq_false_iff_not, Option.isSome_some, Option.isSome_none, Bool.true_bne, Bool.false_bne]
      refine run_ar (by decide) rfl (ix3_0 ?_)
      simp only [run_max2, dSeq, dIfS, dTest, dOp, dName, dC, dRet, dLstF, dCons, dNil, dTup, dNext, dAsg, dLstM, gdName, dDrop, dM, dM0, dIf, dAnd, dOr, dNot, dAndV, dOrV, dNotV, dChain, dFz, dRetF, dRetN, dBreak, dCont, dCB, gdTup, gdCons, gdNil, gdSub, dNeg, dAug, dAugS, dFrz, dPar, dNoPart, dPart, dSlice, dYes, wipeD, i2, d1, d2, d3, startD, List.map_cons, List.map_nil, List.length_cons, List.length_nil, List.cons_append, List.nil_append, List.append_nil, List.getElem?_cons_zero, List.getElem?_cons_succ, List.getElem?_nil, List.replicate, List.set_cons_succ, List.set_cons_zero, Nat.reduceAdd, Nat.reduceSub, Nat.reduceLeDiff, run_eqi, run_nei, run_lt, run_le, run_gt, run_ge, run_addi, run_iaddi, true_and, and_true, Bool.not_eq_true, Bool.not_true, Bool.not_false, if_true, if_false, Bool.false_eq_true, ite_true, ite_false, reduceIte, reduceCtorEq, decide_eq_true_eq, decide_eq_false_iff_not, Option.isSome_some, Option.isSome_none, Bool.true_bne, Bool.false_bne]
      refine run_ar (by decide) rfl (ix3_0 ?_)
      simp only [run_min2, dSeq, dIfS, dTest, dOp, dName, dC, dRet, dLstF, dCons, dNil, dTup, dNext, dAsg, dLstM, gdName, dDrop, dM, dM0, dIf, dAnd, dOr, dNot, dAndV, dOrV, dNotV, dChain, dFz, dRetF, dRetN, dBreak, dCont, dCB, gdTup, gdCons, gdNil, gdSub, dNeg, dAug, dAugS, dFrz, dPar, dNoPart, dPart, dSlice, dYes, wipeD, i2, d1, d2, d3, startD, List.map_cons, List.map_nil, List.length_cons, List.length_nil, List.cons_append, List.nil_append, List.append_nil, List.getElem?_cons_zero, List.getElem?_cons_succ, List.getElem?_nil, List.replicate, List.set_cons_succ, List.set_cons_zero, Nat.reduceAdd, Nat.reduceSub, Nat.reduceLeDiff, run_eqi, run_nei, run_lt, run_le, run_gt, run_ge, run_addi, run_iaddi, true_and, and_true, Bool.not_eq_true, Bool.not_true, Bool.not_false, if_true, if_false, Bool.false_eq_true, ite_true, ite_false, reduceIte, reduceCtorEq, decide_eq_true_eq, decide_eq_false_iff_not, Option.isSome_some, Option.isSome_none, Bool.true_bne, Bool.false_bne]
      have m1 : -(2 ^ 62) ≤ mx s.ar.1 (pt.1 - (rot c.1 c.2.1 t).1 - s.cam.er) ∧ mx s.ar.1 (pt.1 - (rot c.1 c.2.1 t).1 - s.cam.er) < 2 ^ 62 := by unfold mx; split <;> omega
      have m2 : -(2 ^ 62) ≤ mn s.ar.2.1 (pt.1 - (rot c.1 c.2.1 t).1 + s.cam.er) + 1 ∧ mn s.ar.2.1 (pt.1 - (rot c.1 c.2.1 t).1 + s.cam.er) + 1 < 2 ^ 62 := by unfold mn; split <;> omega
      have m3 : -(2 ^ 62) ≤ mx s.ar.2.2.1 (pt.2.1 - (rot c.1 c.2.1 t).2 - s.cam.er) ∧ mx s.ar.2.2.1 (pt.2.1 - (rot c.1 c.2.1 t).2 - s.cam.er) < 2 ^ 62 := by unfold mx; split <;> omega
      have m4 : -(2 ^ 62) ≤ mn s.ar.2.2.2 (pt.2.1 - (rot c.1 c.2.1 t).2 + s.cam.er) + 1 ∧ mn s.ar.2.2.2 (pt.2.1 - (rot c.1 c.2.1 t).2 + s.cam.er) + 1 < 2 ^ 62 := by unfold mn; split <;> omega
      refine ⟨⟨m1.1, m1.2, m2.1, m2.2⟩, ?_⟩
      refine ⟨fun j η G' => ∃ kvs o3 o4, η = [some (sD s), some (e3 pt), some (.int t), some (.int s.cam.er), some (e4 s.ar), some (.ref p), some (e3 c), some (.int (rot c.1 c.2.1 t).1), some (.int (rot c.1 c.2.1 t).2), o3, o4] ∧ G' = up G p (.dN (enc k2 .bl kvs)) ∧ Vd s ((s.cs.take i).flatMap (visC s pt t) ++ ((r1 s pt c t).take j).flatMap fun a => (r2 s pt c t).map fun b => (a, b)) kvs, ⟨kvs, o3, o4, rfl, rfl, by simpa using vd⟩, fun _ _ _ _ => trivial, ?_, ?_⟩
      · rintro j d η G' hd ⟨kvs, o3, o4, rfl, rfl, vd⟩
        obtain ⟨a, ha, rfl⟩ := get_map hd
        replace ha : (r1 s pt c t)[j]? = some a := ha
        have ha2 := r1_mem.mp (List.mem_of_getElem? ha)
        simp only [diRange2, dSeq, dIfS, dTest, dOp, dName, dC, dRet, dLstF, dCons, dNil, dTup, dNext, dAsg, dLstM, gdName, dDrop, dM, dM0, dIf, dAnd, dOr, dNot, dAndV, dOrV, dNotV, dChain, dFz, dRetF, dRetN, dBreak, dCont, dCB, gdTup, gdCons, gdNil, gdSub, dNeg, dAug, dAugS, dFrz, dPar, dNoPart, dPart, dSlice, dYes, wipeD, i2, d1, d2, d3, startD, List.map_cons, List.map_nil, List.length_cons, List.length_nil, List.cons_append, List.nil_append, List.append_nil, List.getElem?_cons_zero, List.getElem?_cons_succ, List.getElem?_nil, List.replicate, List.set_cons_succ, List.set_cons_zero, Nat.reduceAdd, Nat.reduceSub, Nat.reduceLeDiff, run_eqi, run_nei, run_lt, run_le, run_gt, run_ge, run_addi, run_iaddi, true_and, and_true, Bool.not_eq_true, Bool.not_true, Bool.not_false, if_true, if_false, Bool.false_eq_true, ite_true, ite_false, reduceIte, reduceCtorEq, decide_eq_true_eq, decide_eq_false_iff_not, Option.isSome_some, Option.isSome_none, Bool.true_bne, Bool.false_bne]
        refine run_ar (by decide) rfl (ix3_1 ?_)
        simp only [run_max2, dSeq, dIfS, dTest, dOp, dName, dC, dRet, dLstF, dCons, dNil, dTup, dNext, dAsg, dLstM, gdName, dDrop, dM, dM0, dIf, dAnd, dOr, dNot, dAndV, dOrV, dNotV, dChain, dFz, dRetF, dRetN, dBreak, dCont, dCB, gdTup, gdCons, gdNil, gdSub, dNeg, dAug, dAugS, dFrz, dPar, dNoPart, dPart, dSlice, dYes, wipeD, i2, d1, d2, d3, startD, List.map_cons, List.map_nil, List.length_cons, List.length_nil, List.cons_append, List.nil_append, List.append_nil, List.getElem?_cons_zero, List.getElem?_cons_succ, List.getElem?_nil, List.replicate, List.set_cons_succ, List.set_cons_zero, Nat.reduceAdd, Nat.reduceSub, Nat.reduceLeDiff, run_eqi, run_nei, run_lt, run_le, run_gt, run_ge, run_addi, run_iaddi, true_and, and_true, Bool.not_eq_true, Bool.not_true, Bool.not_false, if_true, if_false, Bool.false_eq_true, ite_true, ite_false, reduceIte, reduceCtorEq, decide_eq_true_eq, decide_eq_false_iff_not, Option.isSome_some, Option.isSome_none, Bool.true_bne, Bool.false_bne]
        refine run_ar (by decide) rfl (ix3_1 ?_)
        simp only [run_min2, dSeq, dIfS, dTest, dOp, dName, dC, dRet, dLstF, dCons, dNil, dTup, dNext, dAsg, dLstM, gdName, dDrop, dM, dM0, dIf, dAnd, dOr, dNot, dAndV, dOrV, dNotV, dChain, dFz, dRetF, dRetN, dBreak, dCont, dCB, gdTup, gdCons, gdNil, gdSub, dNeg, dAug, dAugS, dFrz, dPar, dNoPart, dPart, dSlice, dYes, wipeD, i2, d1, d2, d3, startD, List.map_cons, List.map_nil, List.length_cons, List.length_nil, List.cons_append, List.nil_append, List.append_nil, List.getElem?_cons_zero, List.getElem?_cons_succ, List.getElem?_nil, List.replicate, List.set_cons_succ, List.set_cons_zero, Nat.reduceAdd, Nat.reduceSub, Nat.reduceLeDiff, run_eqi, run_nei, run_lt, run_le, run_gt, run_ge, run_addi, run_iaddi, true_and, and_true, Bool.not_eq_true, Bool.not_true, Bool.not_false, if_true, if_false, Bool.false_eq_true, ite_true, ite_false, reduceIte, reduceCtorEq, decide_eq_true_eq, decide_eq_false_iff_not, Option.isSome_some, Option.isSome_none, Bool.true_bne, Bool.false_bne]
        refine ⟨⟨m3.1, m3.2, m4.1, m4.2⟩, ?_⟩
        refine ⟨fun k η G' => ∃ kvs o4, η = [some (sD s), some (e3 pt), some (.int t), some (.int s.cam.er), some (e4 s.ar), some (.ref p), some (e3 c), some (.int (rot c.1 c.2.1 t).1), some (.int (rot c.1 c.2.1 t).2), some (.int a), o4] ∧ G' = up G p (.dN (enc k2 .bl kvs)) ∧ Vd s (((s.cs.take i).flatMap (visC s pt t) ++ ((r1 s pt c t).take j).flatMap fun a => (r2 s pt c t).map fun b => (a, b)) ++ ((r2 s pt c t).take k).map fun b => (a, b)) kvs, ⟨kvs, o4, rfl, rfl, by simpa using vd⟩, fun _ _ _ _ => trivial, ?_, ?_⟩
        · rintro k d η G' hd ⟨kvs, o4, rfl, rfl, vd⟩
          obtain ⟨b, hb, rfl⟩ := get_map hd
          replace hb : (r2 s pt c t)[k]? = some b := hb
          have hb2 := r2_mem.mp (List.mem_of_getElem? hb)
          have hl := vd.len ok
          simp only [dSeq, dIfS, dTest, dOp, dName, dC, dRet, dLstF, dCons, dNil, dTup, dNext, dAsg, dLstM, gdName, dDrop, dM, dM0, dIf, dAnd, dOr, dNot, dAndV, dOrV, dNotV, dChain, dFz, dRetF, dRetN, dBreak, dCont, dCB, gdTup, gdCons, gdNil, gdSub, dNeg, dAug, dAugS, dFrz, dPar, dNoPart, dPart, dSlice, dYes, wipeD, i2, d1, d2, d3, startD, List.map_cons, List.map_nil, List.length_cons, List.length_nil, List.cons_append, List.nil_append, List.append_nil, List.getElem?_cons_zero, List.getElem?_cons_succ, List.getElem?_nil, List.replicate, List.set_cons_succ, List.set_cons_zero, Nat.reduceAdd, Nat.reduceSub, Nat.reduceLeDiff, run_eqi, run_nei, run_lt, run_le, run_gt, run_ge, run_addi, run_iaddi, true_and, and_true, Bool.not_eq_true, Bool.not_true, Bool.not_false, if_true, if_false, Bool.false_eq_true, ite_true, ite_false, reduceIte, reduceCtorEq, decide_eq_true_eq, decide_eq_false_iff_not, Option.isSome_some, Option.isSome_none, Bool.true_bne, Bool.false_bne]
          refine run_set tk2 (a := (a, b)) (b := true) (f := D.bl) up_same (small_line (by omega)) ?_
          rw [up_up]
          refine ⟨_, (by repeat (first | exact Le.nil | apply Le.keep | apply Le.drop)), _, _, rfl, rfl, ?_⟩
          rw [take_sn hb, List.map_append, ← List.append_assoc]
          exact vd.step ⟨ha2.1, hb2.1⟩
        · rintro η G' ⟨kvs, o4, rfl, rfl, vd⟩
          refine ⟨_, (by repeat (first | exact Le.nil | apply Le.keep | apply Le.drop)), kvs, _, _, rfl, rfl, ?_⟩
          rw [List.length_map] at vd
          rw [fm_take ha, ← List.append_assoc]
          have e : ((r2 s pt c t).take (rangeL (mx s.ar.2.2.1 (pt.2.1 - (rot c.1 c.2.1 t).2 - s.cam.er)) (mn s.ar.2.2.2 (pt.2.1 - (rot c.1 c.2.1 t).2 + s.cam.er) + 1)).length) = r2 s pt c t := List.take_length ..
          rw [e] at vd
          exact vd
      · rintro η G' ⟨kvs, o3, o4, rfl, rfl, vd⟩
        refine ⟨_, (by repeat (first | exact Le.nil | apply Le.keep | apply Le.drop)), kvs, _, _, _, _, _, rfl, rfl, ?_⟩
        rw [List.length_map] at vd
        have e : ((r1 s pt c t).take (rangeL (mx s.ar.1 (pt.1 - (rot c.1 c.2.1 t).1 - s.cam.er)) (mn s.ar.2.1 (pt.1 - (rot c.1 c.2.1 t).1 + s.cam.er) + 1)).length) = r1 s pt c t := List.take_length ..
        rw [e] at vd
        rw [fm_take hc]
        unfold visC at vd ⊢
        rw [if_pos h1]
        exact vd
    · rw [if_neg h1]
      refine ⟨_, (by repeat (first | exact Le.nil | apply Le.keep | apply Le.drop)), kvs, _, _, _, _, _, rfl, rfl, ?_⟩
      rw [fm_take hc, show visC s pt t c = [] from if_neg h1, List.append_nil]
      exact vd
  · rintro η G' ⟨kvs, o0, o1, o2, o3, o4, rfl, rfl, vd⟩
    rw [List.length_map, List.take_length] at vd
    simp only [up_same, dl_up hp, tree_eD, dSeq, dIfS, dTest, dOp, dName, dC, dRet, dLstF, dCons, dNil, dTup, dNext, dAsg, dLstM, gdName, dDrop, dM, dM0, dIf, dAnd, dOr, dNot, dAndV, dOrV, dNotV, dChain, dFz, dRetF, dRetN, dBreak, dCont, dCB, gdTup, gdCons, gdNil, gdSub, dNeg, dAug, dAugS, dFrz, dPar, dNoPart, dPart, dSlice, dYes, wipeD, i2, d1, d2, d3, startD, List.map_cons, List.map_nil, List.length_cons, List.length_nil, List.cons_append, List.nil_append, List.append_nil, List.getElem?_cons_zero, List.getElem?_cons_succ, List.getElem?_nil, List.replicate, List.set_cons_succ, List.set_cons_zero, Nat.reduceAdd, Nat.reduceSub, Nat.reduceLeDiff, run_eqi, run_nei, run_lt, run_le, run_gt, run_ge, run_addi, run_iaddi, true_and, and_true, Bool.not_eq_true, Bool.not_true, Bool.not_false, if_true, if_false, Bool.false_eq_true, ite_true, ite_false, reduceIte, reduceCtorEq, decide_eq_true_eq, decide_eq_false_iff_not, Option.isSome_some, Option.isSome_none, Bool.true_bne, Bool.false_bne]
    refine q kvs vd.nd fun sh => ?_
    rw [vd.mem, List.mem_flatMap]
    constructor
    · rintro ⟨c, hc, h⟩
      obtain ⟨h1, h2⟩ := visC_mem.mp h
      exact ⟨h1, c, hc, h2⟩
    · rintro ⟨h1, c, hc, h2⟩
      exact ⟨c, hc, visC_mem.mpr ⟨h1, h2⟩⟩
end M
namespace M
open PySem PySem.Spec PyProof.Rows L2 DL
variable [CA]

/-! ### votes_for -/
noncomputable def vts (s : Sk) (pic : List Pt) (st : Pt) : Nat := pic.countP (shb s st)
def cntO (n : Nat) : Option Int := if n = 0 then none else some (n : Int)
/-- the votes for the shifts of the area, by a turn -/
structure Vot (s : Sk) (kvs : List ((Int × Int) × Int)) (f : Int × Int → Nat) : Prop where
  nd : (kvs.map (·.1)).Nodup
  at_ : ∀ sh, aget kvs sh = cntO (f sh)
  inn : ∀ sh, f sh ≠ 0 → inA s sh
theorem cntO_some {n : Nat} : (cntO n).isSome = true ↔ n ≠ 0 := by
  unfold cntO
  split
  · rename_i h; simp [h]
  · rename_i h; simp [h]
theorem Vot.mem {s : Sk} {kvs : List ((Int × Int) × Int)} {f : Int × Int → Nat} (h : Vot s kvs f) {sh : Int × Int} : sh ∈ kvs.map (·.1) ↔ f sh ≠ 0 := by
  rw [← aget_mem, h.at_, cntO_some]
theorem Vot.len {s : Sk} {kvs : List ((Int × Int) × Int)} {f : Int × Int → Nat} (ok : OkSk s) (h : Vot s kvs f) : kvs.length ≤ 10000 := by
  have := len_sub (xs := rectL s) h.nd fun y hy => rect_mem.mpr (h.inn y (h.mem.mp hy))
  rw [List.length_map] at this
  exact Nat.le_trans this (rect_len ok)
theorem Vot.step {s : Sk} {kvs : List ((Int × Int) × Int)} {f g : Int × Int → Nat} (h : Vot s kvs f) {sh : Int × Int} (hs : inA s sh) (hg : ∀ c, g c = if c = sh then f sh + 1 else f c) : Vot s (aput kvs sh ((aget kvs sh).getD 0 + 1)) g := by
  refine ⟨aput_nodup _ _ _ h.nd, fun c => ?_, fun c hc => ?_⟩
  · rw [aget_aput, hg]
    split
    · rw [h.at_]
      unfold cntO
      by_cases h0 : f sh = 0
      · simp [h0]
      · simp [h0]
    · exact h.at_ c
  · rw [hg] at hc
    split at hc
    · rename_i e; rw [e]; exact hs
    · exact h.inn c hc
noncomputable def vtsA (s : Sk) (pic : List Pt) (t : Int) (sh : Int × Int) : Nat := @ite _ (inA s sh) (Classical.propDecidable _) (vts s pic (t, sh)) 0
def sp_votes_for : DRn := fun ds G Q => ∃ (s : Sk) (pic : List Pt) (t : Int), ds = [sD s, eT e3 pic, .int t] ∧ OkSk s ∧ okPic s.cam pic ∧ ∀ kvs, Vot s kvs (vtsA s pic t) → Q (eD k2 .int kvs) G
abbrev N_votes_for : List Str := ["sky", "picture", "turn", "found", "point", "shift"]
def T_votes_for : DTS :=
    (dSeq (dAsg dNewN (gdName 3))
    (dSeq (dFor (diSeq (dName 1)) (gdName 4)
    (dFor (diKeys (dCB sp_shifts_of (dCons (dName 0) (dCons (dName 4) (dCons (dName 2) dNil))))) (gdName 5)
    (dAsg (dOp dAdd (dM "dict" dGet2 (dName 3) (dCons (dName 5) (dCons (dC (.int 0)) dNil))) (dC (.int 1))) (gdSub (dName 3) (dName 5) dSet))))
    (dRetF (dName 3))))
theorem len_votes_for : ∀ ds G Q, sp_votes_for ds G Q → ds.length = 3 := fun ds G Q ⟨c, x, y, e, _⟩ => by rw [e]; rfl
theorem dicP_eD {α β : Type} [DecidableEq α] {k : α → NestedKey} {e : α → D} (T : TKey k e) (f : β → D) (kvs : List (α × β)) : dicP (eD k f kvs) = some (kvs.map fun p => (e p.1, f p.2)) := by
  unfold eD dicP enc
  simp only [List.map_map, Option.some.injEq]
  induction kvs with
  | nil => rfl
  | cons x l ih =>
    simp only [List.map_cons, List.zip_cons_cons, Function.comp]
    rw [T.nk]
    exact congrArg _ ih
theorem run_votes_for : ∀ ds G Q, sp_votes_for ds G Q → T_votes_for { nx := fun _ G' => Q .non G', rt := Q } (startD N_votes_for ds) G := fun ds G Q h => by
  obtain ⟨s, pic, t, rfl, ok, okp, q⟩ := h
  simp only [T_votes_for, N_votes_for, dNewN, dSeq, dIfS, dTest, dOp, dName, dC, dRet, dLstF, dCons, dNil, dTup, dNext, dAsg, dLstM, gdName, dDrop, dM, dM0, dIf, dAnd, dOr, dNot, dAndV, dOrV, dNotV, dChain, dFz, dRetF, dRetN, dBreak, dCont, dCB, gdTup, gdCons, gdNil, gdSub, dNeg, dAug, dAugS, dFrz, dPar, dNoPart, dPart, dSlice, dYes, wipeD, i2, d1, d2, d3, startD, List.map_cons, List.map_nil, List.length_cons, List.length_nil, List.cons_append, List.nil_append, List.append_nil, List.getElem?_cons_zero, List.getElem?_cons_succ, List.getElem?_nil, List.replicate, List.set_cons_succ, List.set_cons_zero, Nat.reduceAdd, Nat.reduceSub, Nat.reduceLeDiff, run_eqi, run_nei, run_lt, run_le, run_gt, run_ge, run_addi, run_iaddi, true_and, and_true, Bool.not_eq_true, Bool.not_true, Bool.not_false, if_true, if_false, Bool.false_eq_true, ite_true, ite_false, reduceIte, reduceCtorEq, decide_eq_true_eq, decide_eq_false_iff_not, Option.isSome_some, Option.isSome_none, Bool.true_bne, Bool.false_bne]
  intro p hp
  simp only [dFor, diSeq, eT, dSeq, dIfS, dTest, dOp, dName, dC, dRet, dLstF, dCons, dNil, dTup, dNext, dAsg, dLstM, gdName, dDrop, dM, dM0, dIf, dAnd, dOr, dNot, dAndV, dOrV, dNotV, dChain, dFz, dRetF, dRetN, dBreak, dCont, dCB, gdTup, gdCons, gdNil, gdSub, dNeg, dAug, dAugS, dFrz, dPar, dNoPart, dPart, dSlice, dYes, wipeD, i2, d1, d2, d3, startD, List.map_cons, List.map_nil, List.length_cons, List.length_nil, List.cons_append, List.nil_append, List.append_nil, List.getElem?_cons_zero, List.getElem?_cons_succ, List.getElem?_nil, List.replicate, List.set_cons_succ, List.set_cons_zero, Nat.reduceAdd, Nat.reduceSub, Nat.reduceLeDiff, run_eqi, run_nei, run_lt, run_le, run_gt, run_ge, run_addi, run_iaddi, true_and, and_true, Bool.not_eq_true, Bool.not_true, Bool.not_false, if_true, if_false, Bool.false_eq_true, ite_true, ite_false, reduceIte, reduceCtorEq, decide_eq_true_eq, decide_eq_false_iff_not, Option.isSome_some, Option.isSome_none, Bool.true_bne, Bool.false_bne]
  refine ⟨fun i η G' => ∃ kvs a b, η = [some (sD s), some (eT e3 pic), some (.int t), some (.ref p), a, b] ∧ G' = up G p (.dN (enc k2 .int kvs)) ∧ Vot s kvs (vtsA s (pic.take i) t), ⟨[], none, none, rfl, rfl, by simp, fun sh => by unfold vtsA vts; simp [aget, cntO], fun sh h => by unfold vtsA vts at h; simp at h⟩, fun _ _ _ _ => trivial, ?_, ?_⟩
  · rintro i d η G' hd ⟨kvs, a, b, rfl, rfl, vo⟩
    obtain ⟨pt, hpt, rfl⟩ := get_map hd
    obtain ⟨okpt, _⟩ := okp pt (List.mem_of_getElem? hpt)
    simp only [diKeys, dSeq, dIfS, dTest, dOp, dName, dC, dRet, dLstF, dCons, dNil, dTup, dNext, dAsg, dLstM, gdName, dDrop, dM, dM0, dIf, dAnd, dOr, dNot, dAndV, dOrV, dNotV, dChain, dFz, dRetF, dRetN, dBreak, dCont, dCB, gdTup, gdCons, gdNil, gdSub, dNeg, dAug, dAugS, dFrz, dPar, dNoPart, dPart, dSlice, dYes, wipeD, i2, d1, d2, d3, startD, List.map_cons, List.map_nil, List.length_cons, List.length_nil, List.cons_append, List.nil_append, List.append_nil, List.getElem?_cons_zero, List.getElem?_cons_succ, List.getElem?_nil, List.replicate, List.set_cons_succ, List.set_cons_zero, Nat.reduceAdd, Nat.reduceSub, Nat.reduceLeDiff, run_eqi, run_nei, run_lt, run_le, run_gt, run_ge, run_addi, run_iaddi, true_and, and_true, Bool.not_eq_true, Bool.not_true, Bool.not_false, if_true, if_false, Bool.false_eq_true, ite_true, ite_false, reduceIte, reduceCtorEq, decide_eq_true_eq, decide_eq_false_iff_not, Option.isSome_some, Option.isSome_none, Bool.true_bne, Bool.false_bne]
    refine ⟨s, pt, t, rfl, ok, okpt, fun ks nd km => ?_⟩
    dsimp only
    rw [dicP_eD tk2]
    dsimp only
    rw [List.map_map]
    refine ⟨fun j η G' => ∃ kvs b, η = [some (sD s), some (eT e3 pic), some (.int t), some (.ref p), some (e3 pt), b] ∧ G' = up G p (.dN (enc k2 .int kvs)) ∧ Vot s kvs (fun sh => vtsA s (pic.take i) t sh + if sh ∈ (ks.map (·.1)).take j then 1 else 0), ⟨kvs, b, rfl, rfl, by simpa using vo⟩, fun _ _ _ _ => trivial, ?_, ?_⟩
    · rintro j d η G' hd ⟨kvs, b, rfl, rfl, vo⟩
      obtain ⟨x, hx, rfl⟩ := get_map hd
      have hx2 : (ks.map (·.1))[j]? = some x.1 := by rw [List.getElem?_map, hx]; rfl
      have hfr := nd_take nd hx2
      have hl := vo.len ok
      dsimp only [Function.comp]
      simp only [dSeq, dIfS, dTest, dOp, dName, dC, dRet, dLstF, dCons, dNil, dTup, dNext, dAsg, dLstM, gdName, dDrop, dM, dM0, dIf, dAnd, dOr, dNot, dAndV, dOrV, dNotV, dChain, dFz, dRetF, dRetN, dBreak, dCont, dCB, gdTup, gdCons, gdNil, gdSub, dNeg, dAug, dAugS, dFrz, dPar, dNoPart, dPart, dSlice, dYes, wipeD, i2, d1, d2, d3, startD, List.map_cons, List.map_nil, List.length_cons, List.length_nil, List.cons_append, List.nil_append, List.append_nil, List.getElem?_cons_zero, List.getElem?_cons_succ, List.getElem?_nil, List.replicate, List.set_cons_succ, List.set_cons_zero, Nat.reduceAdd, Nat.reduceSub, Nat.reduceLeDiff, run_eqi, run_nei, run_lt, run_le, run_gt, run_ge, run_addi, run_iaddi, true_and, and_true, Bool.not_eq_true, Bool.not_true, Bool.not_false, if_true, if_false, Bool.false_eq_true, ite_true, ite_false, reduceIte, reduceCtorEq, decide_eq_true_eq, decide_eq_false_iff_not, Option.isSome_some, Option.isSome_none, Bool.true_bne, Bool.false_bne]
      refine run_getI tk2 (a := x.1) (kvs := kvs) (z := 0) (dicN_ref up_same) (ty_ref up_same) ?_
      simp only [dSeq, dIfS, dTest, dOp, dName, dC, dRet, dLstF, dCons, dNil, dTup, dNext, dAsg, dLstM, gdName, dDrop, dM, dM0, dIf, dAnd, dOr, dNot, dAndV, dOrV, dNotV, dChain, dFz, dRetF, dRetN, dBreak, dCont, dCB, gdTup, gdCons, gdNil, gdSub, dNeg, dAug, dAugS, dFrz, dPar, dNoPart, dPart, dSlice, dYes, wipeD, i2, d1, d2, d3, startD, List.map_cons, List.map_nil, List.length_cons, List.length_nil, List.cons_append, List.nil_append, List.append_nil, List.getElem?_cons_zero, List.getElem?_cons_succ, List.getElem?_nil, List.replicate, List.set_cons_succ, List.set_cons_zero, Nat.reduceAdd, Nat.reduceSub, Nat.reduceLeDiff, run_eqi, run_nei, run_lt, run_le, run_gt, run_ge, run_addi, run_iaddi, true_and, and_true, Bool.not_eq_true, Bool.not_true, Bool.not_false, if_true, if_false, Bool.false_eq_true, ite_true, ite_false, reduceIte, reduceCtorEq, decide_eq_true_eq, decide_eq_false_iff_not, Option.isSome_some, Option.isSome_none, Bool.true_bne, Bool.false_bne]
      refine run_set tk2 (a := x.1) (f := D.int) up_same (small_line (by omega)) ?_
      rw [up_up]
      refine ⟨_, (by repeat (first | exact Le.nil | apply Le.keep | apply Le.drop)), _, _, rfl, rfl, vo.step ((km x.1).mp (List.mem_of_getElem? hx2)).1 fun c => ?_⟩
      rw [take_sn hx2]
      by_cases hc : c = x.1
      · rw [if_pos hc, hc, if_pos (by simp), if_neg hfr]
      · rw [if_neg hc]
        congr 1
        simp only [List.mem_append, List.mem_singleton, hc, or_false]
    · rintro η G' ⟨kvs, b, rfl, rfl, vo⟩
      refine ⟨_, (by repeat (first | exact Le.nil | apply Le.keep | apply Le.drop)), kvs, _, _, rfl, rfl, ?_⟩
      rw [show (List.map ((fun x => x.1) ∘ fun p : (Int × Int) × Bool => (e2 p.1, D.bl p.2)) ks).length = (ks.map (·.1)).length by rw [List.length_map, List.length_map], List.take_length] at vo
      have e : (fun sh => vtsA s (pic.take i) t sh + if sh ∈ ks.map (·.1) then 1 else 0) = vtsA s (pic.take (i + 1)) t := by
        funext sh
        unfold vtsA vts
        rw [take_sn hpt, List.countP_append, List.countP_singleton]
        by_cases ha : inA s sh
        · rw [if_pos ha, if_pos ha]
          congr 1
          by_cases hb : shN s pt (t, sh)
          · rw [if_pos ((km sh).mpr ⟨ha, hb⟩), if_pos (shb_iff.mpr hb)]
          · rw [if_neg (fun z => hb ((km sh).mp z).2), if_neg (fun z => hb (shb_iff.mp z))]
        · rw [if_neg ha, if_neg ha, if_neg (fun z => ha ((km sh).mp z).1)]
      rw [e] at vo
      exact vo
  · rintro η G' ⟨kvs, a, b, rfl, rfl, vo⟩
    rw [List.length_map, List.take_length] at vo
    simp only [up_same, dl_up hp, tree_eD, dSeq, dIfS, dTest, dOp, dName, dC, dRet, dLstF, dCons, dNil, dTup, dNext, dAsg, dLstM, gdName, dDrop, dM, dM0, dIf, dAnd, dOr, dNot, dAndV, dOrV, dNotV, dChain, dFz, dRetF, dRetN, dBreak, dCont, dCB, gdTup, gdCons, gdNil, gdSub, dNeg, dAug, dAugS, dFrz, dPar, dNoPart, dPart, dSlice, dYes, wipeD, i2, d1, d2, d3, startD, List.map_cons, List.map_nil, List.length_cons, List.length_nil, List.cons_append, List.nil_append, List.append_nil, List.getElem?_cons_zero, List.getElem?_cons_succ, List.getElem?_nil, List.replicate, List.set_cons_succ, List.set_cons_zero, Nat.reduceAdd, Nat.reduceSub, Nat.reduceLeDiff, run_eqi, run_nei, run_lt, run_le, run_gt, run_ge, run_addi, run_iaddi, true_and, and_true, Bool.not_eq_true, Bool.not_true, Bool.not_false, if_true, if_false, Bool.false_eq_true, ite_true, ite_false, reduceIte, reduceCtorEq, decide_eq_true_eq, decide_eq_false_iff_not, Option.isSome_some, Option.isSome_none, Bool.true_bne, Bool.false_bne]
    exact q kvs vo
/-! ### voted_reading: what it comes to -/
theorem whr_count {α : Type} (f : α → Bool) (l : List α) : (whr f l).length = l.countP f := by
  induction l using snoc_ind with
  | h0 => rfl
  | h1 l x ih =>
    rw [whr_snoc, List.length_append, ih, List.countP_append, List.countP_singleton]
    by_cases h : f x = true
    · rw [if_pos h, if_pos h]; rfl
    · rw [if_neg h, if_neg h]; rfl
theorem fitA_votes {s : Sk} {pic : List Pt} {st : Pt} (h : FitA s pic st) : (pic.length : Int) - s.cam.fa ≤ vts s pic st := by
  obtain ⟨P, m, hl⟩ := h
  have : P.length ≤ (whr (shb s st) pic).length := by
    refine inj_len (R := fun x y => x.2 = y) (nd_map m.nd) (fun x hx => ?_) fun x hx x' hx' y e e' => ?_
    · obtain ⟨⟨h0, h1⟩, h2⟩ := m.ok x.1 x.2 (ag_of m.nd hx)
      rw [nx_len] at h1
      refine ⟨x.2, whr_mem.mpr ⟨x.2.toNat, pic[x.2.toNat], by omega, List.getElem?_eq_getElem (by omega), ?_⟩, rfl⟩
      unfold nxt nxL at h2
      rw [List.getElem?_map, List.getElem?_eq_getElem (by omega)] at h2
      obtain ⟨k, c, _, hc, hn⟩ := whr_mem.mp (show x.1 ∈ nearL _ _ _ from h2)
      refine shb_iff.mpr ?_
      unfold placesL at hc
      rw [List.getElem?_map] at hc
      cases e : s.cs[k]? with
      | none => rw [e] at hc; cases hc
      | some c' =>
        rw [e] at hc
        cases hc
        exact ⟨c', List.mem_of_getElem? e, of_decide_eq_true hn⟩
    · have g1 := ag_of m.nd (show (x.1, x.2) ∈ P from hx)
      have g2 := ag_of m.nd (show (x'.1, x'.2) ∈ P from hx')
      have e3 : x.2 = x'.2 := e.trans e'.symm
      rw [e3] at g1
      exact Prod.ext (m.inj _ _ _ g1 g2) e3
  rw [whr_count] at this
  show _ ≤ ((pic.countP (shb s st) : Nat) : Int)
  omega
/-- the shift of a standing by a turn -/
def atT (t : Int) (sh : Int × Int) : Pt := (t, sh.1, sh.2)
theorem colS_rect (s : Sk) (t : Int) : colS s t = (rectL s).map (atT t) := by
  unfold colS rectL rowS
  rw [List.map_flatMap]
  congr 1
  funext x
  rw [List.map_map]
  rfl
theorem rect_sorted (s : Sk) : (rectL s).Pairwise fun a b => a.1 < b.1 ∨ (a.1 = b.1 ∧ a.2 < b.2) := by
  unfold rectL
  rw [List.pairwise_flatMap]
  refine ⟨fun x _ => ?_, ?_⟩
  · rw [List.pairwise_map]
    exact (range_sorted _ _).imp fun h => .inr ⟨rfl, h⟩
  · refine (range_sorted _ _).imp fun {a b} h => ?_
    intro x hx y hy
    obtain ⟨_, _, rfl⟩ := List.mem_map.mp hx
    obtain ⟨_, _, rfl⟩ := List.mem_map.mp hy
    exact .inl h
theorem rect_nodup (s : Sk) : (rectL s).Nodup := (rect_sorted s).imp fun {a b} h e => by subst e; omega
theorem le2_of {a b : Int × Int} (h : a.1 < b.1 ∨ (a.1 = b.1 ∧ a.2 < b.2)) : [a.1, a.2] ≤ [b.1, b.2] := by
  rw [List.cons_le_cons_iff]
  rcases h with h | ⟨h1, h2⟩
  · exact .inl h
  · refine .inr ⟨h1, ?_⟩
    rw [List.cons_le_cons_iff]
    exact .inl h2
theorem srt_keys {s : Sk} {kvs : List ((Int × Int) × Int)} {f : Int × Int → Nat} (h : Vot s kvs f) : srtT e2 (kvs.map (·.1)) = (rectL s).filter fun sh => decide (f sh ≠ 0) := by
  have gi : ∀ a b : Int × Int, ([a.1, a.2] : List Int) = [b.1, b.2] → a = b := fun a b e => by
    simp at e; exact Prod.ext e.1 e.2
  have p : (kvs.map (·.1)).Perm ((rectL s).filter fun sh => decide (f sh ≠ 0)) := nodup_perm h.nd ((rect_nodup s).filter _) fun sh => by
    rw [h.mem, List.mem_filter, rect_mem, decide_eq_true_eq]
    exact ⟨fun z => ⟨h.inn sh z, z⟩, fun z => z.2⟩
  rw [srtT_eq (g := fun a : Int × Int => [a.1, a.2]) (fun a b => le_e2 a b) gi p]
  exact srtT_id (g := fun a : Int × Int => [a.1, a.2]) (fun a b => le_e2 a b) (((rect_sorted s).filter _).imp le2_of)
noncomputable def lookB (s : Sk) (pic : List Pt) (st : Pt) : Bool := decide ((pic.length : Int) - s.cam.fa ≤ vts s pic st)
noncomputable def lookL (s : Sk) (pic : List Pt) : List Pt := (standL s).filter (lookB s pic)
end M
namespace M
open PySem PySem.Spec PyProof.Rows L2 DL
variable [CA]

/-! ### voted_reading -/
def sp_voted_reading : DRn := fun ds G Q => ∃ (s : Sk) (pic : List Pt), ds = [sD s, eT e3 pic] ∧ OkSk s ∧ okPic s.cam pic ∧ pic.length ≤ 1000 ∧ Q (.nd .tup [eT e3 (readL s pic), .int (lookL s pic).length]) G
abbrev N_voted_reading : List Str := ["sky", "picture", "least", "found", "looked", "turn", "votes", "shift"]
def T_voted_reading : DTS :=
    (dSeq (dDrop (dMeth CA.Camera "check_picture" sp_Camera_check_picture (dFld CA.Sky "camera" (dName 0)) (dCons (dName 1) dNil)))
    (dSeq (dPar3 2 3 4 (dCons (dOp dSub (dCB dLen (dCons (dName 1) dNil)) (dFld CA.Camera "false" (dFld CA.Sky "camera" (dName 0)))) (dCons (dLstM dNil) (dCons (dC (.int 0)) dNil))))
    (dSeq (dIfS (dTest (dOp dLe (dName 2) (dC (.int 0))))
    (dFrz 3 (dRet (dTup (dCons (dCB sp_plain_reading (dCons (dName 0) (dCons (dName 1) dNil))) (dCons (dCB dLen (dCons (dMeth CA.Sky "standings" sp_Sky_standings (dName 0) dNil) dNil)) dNil)))))
    dNext)
    (dSeq (dFor (diSeq (dFld CA.Sky "turns" (dName 0))) (gdName 5)
    (dSeq (dAsg (dCB sp_votes_for (dCons (dName 0) (dCons (dName 1) (dCons (dName 5) dNil)))) (gdName 6))
    (dFor (diSeq (dFz (dCB dSortedD (dCons (dName 6) dNil)))) (gdName 7)
    (dIfS (dTest (dOp dGe (dOp dIx (dName 6) (dName 7)) (dName 2)))
    (dSeq (dAsg (dOp dAdd (dName 4) (dC (.int 1))) (gdName 4))
    (dIfS (dTest (dCB sp_fits (dCons (dName 0) (dCons (dName 1) (dCons (dTup (dCons (dName 5) (dStar (dName 7) dNil))) dNil)))))
    (dDrop (dM "list" dAppend (dName 3) (dCons (dTup (dCons (dName 5) (dStar (dName 7) dNil))) dNil)))
    dNext))
    dNext))))
    (dFrz 3 (dRet (dTup (dCons (dCB dTuple (dCons (dName 3) dNil)) (dCons (dName 4) dNil)))))))))
theorem len_voted_reading : ∀ ds G Q, sp_voted_reading ds G Q → ds.length = 2 := fun ds G Q ⟨c, x, e, _⟩ => by rw [e]; rfl
theorem filter_len_le {α : Type} {p : α → Bool} {l : List α} {n : Nat} (h : l.length ≤ n) : (l.filter p).length ≤ n := Nat.le_trans (List.length_filter_le _ _) h
theorem fm_filter {α β : Type} (f : α → List β) (p : β → Bool) (l : List α) : (l.flatMap f).filter p = l.flatMap fun x => (f x).filter p := by
  induction l with
  | nil => rfl
  | cons x l ih => rw [List.flatMap_cons, List.filter_append, ih, List.flatMap_cons]
theorem vtsA_at {s : Sk} {pic : List Pt} {t : Int} {sh : Int × Int} (h : inA s sh) : vtsA s pic t sh = vts s pic (atT t sh) := by
  unfold vtsA
  rw [if_pos h]
  rfl
theorem part_eq {s : Sk} {pic : List Pt} {t : Int} {p : Pt → Bool} (h : ∀ st, p st = true → 0 < vts s pic st) : (((rectL s).filter fun sh => decide (vtsA s pic t sh ≠ 0)).filter fun sh => p (atT t sh)).map (atT t) = (colS s t).filter p := by
  rw [colS_rect, List.filter_map, List.filter_filter]
  congr 1
  refine List.filter_congr fun sh hs => ?_
  have := vtsA_at (pic := pic) (t := t) (rect_mem.mp hs)
  rw [this]
  show (p (atT t sh) && decide (vts s pic (atT t sh) ≠ 0)) = p (atT t sh)
  cases e : p (atT t sh) with
  | false => rfl
  | true =>
    have := h _ e
    rw [Bool.true_and, decide_eq_true_eq]
    omega
theorem run_voted_reading : ∀ ds G Q, sp_voted_reading ds G Q → T_voted_reading { nx := fun _ G' => Q .non G', rt := Q } (startD N_voted_reading ds) G := fun ds G Q h => by
  obtain ⟨s, pic, rfl, ok, okp, hp, q⟩ := h
  simp only [T_voted_reading, N_voted_reading, dMeth, dFld, fl_camera, dSeq, dIfS, dTest, dOp, dName, dC, dRet, dLstF, dCons, dNil, dTup, dNext, dAsg, dLstM, gdName, dDrop, dM, dM0, dIf, dAnd, dOr, dNot, dAndV, dOrV, dNotV, dChain, dFz, dRetF, dRetN, dBreak, dCont, dCB, gdTup, gdCons, gdNil, gdSub, dNeg, dAug, dAugS, dFrz, dPar, dNoPart, dPart, dSlice, dYes, wipeD, i2, d1, d2, d3, startD, List.map_cons, List.map_nil, List.length_cons, List.length_nil, List.cons_append, List.nil_append, List.append_nil, List.getElem?_cons_zero, List.getElem?_cons_succ, List.getElem?_nil, List.replicate, List.set_cons_succ, List.set_cons_zero, Nat.reduceAdd, Nat.reduceSub, Nat.reduceLeDiff, run_eqi, run_nei, run_lt, run_le, run_gt, run_ge, run_addi, run_iaddi, true_and, and_true, Bool.not_eq_true, Bool.not_true, Bool.not_false, if_true, if_false, Bool.false_eq_true, ite_true, ite_false, reduceIte, reduceCtorEq, decide_eq_true_eq, decide_eq_false_iff_not, Option.isSome_some, Option.isSome_none, Bool.true_bne, Bool.false_bne]
  refine ⟨ins_cam (by decide), s.cam, pic, rfl, okp, ?_⟩
  simp only [dPar3, run_len_eT, dFld, fl_camera, fl_false, dSeq, dIfS, dTest, dOp, dName, dC, dRet, dLstF, dCons, dNil, dTup, dNext, dAsg, dLstM, gdName, dDrop, dM, dM0, dIf, dAnd, dOr, dNot, dAndV, dOrV, dNotV, dChain, dFz, dRetF, dRetN, dBreak, dCont, dCB, gdTup, gdCons, gdNil, gdSub, dNeg, dAug, dAugS, dFrz, dPar, dNoPart, dPart, dSlice, dYes, wipeD, i2, d1, d2, d3, startD, List.map_cons, List.map_nil, List.length_cons, List.length_nil, List.cons_append, List.nil_append, List.append_nil, List.getElem?_cons_zero, List.getElem?_cons_succ, List.getElem?_nil, List.replicate, List.set_cons_succ, List.set_cons_zero, Nat.reduceAdd, Nat.reduceSub, Nat.reduceLeDiff, run_eqi, run_nei, run_lt, run_le, run_gt, run_ge, run_addi, run_iaddi, true_and, and_true, Bool.not_eq_true, Bool.not_true, Bool.not_false, if_true, if_false, Bool.false_eq_true, ite_true, ite_false, reduceIte, reduceCtorEq, decide_eq_true_eq, decide_eq_false_iff_not, Option.isSome_some, Option.isSome_none, Bool.true_bne, Bool.false_bne]
  refine fun p hpn => ?_
  by_cases h1 : (pic.length : Int) - s.cam.fa ≤ 0
  · rw [if_pos h1]
    simp only [up_same, dl_up hpn, dSeq, dIfS, dTest, dOp, dName, dC, dRet, dLstF, dCons, dNil, dTup, dNext, dAsg, dLstM, gdName, dDrop, dM, dM0, dIf, dAnd, dOr, dNot, dAndV, dOrV, dNotV, dChain, dFz, dRetF, dRetN, dBreak, dCont, dCB, gdTup, gdCons, gdNil, gdSub, dNeg, dAug, dAugS, dFrz, dPar, dNoPart, dPart, dSlice, dYes, wipeD, i2, d1, d2, d3, startD, List.map_cons, List.map_nil, List.length_cons, List.length_nil, List.cons_append, List.nil_append, List.append_nil, List.getElem?_cons_zero, List.getElem?_cons_succ, List.getElem?_nil, List.replicate, List.set_cons_succ, List.set_cons_zero, Nat.reduceAdd, Nat.reduceSub, Nat.reduceLeDiff, run_eqi, run_nei, run_lt, run_le, run_gt, run_ge, run_addi, run_iaddi, true_and, and_true, Bool.not_eq_true, Bool.not_true, Bool.not_false, if_true, if_false, Bool.false_eq_true, ite_true, ite_false, reduceIte, reduceCtorEq, decide_eq_true_eq, decide_eq_false_iff_not, Option.isSome_some, Option.isSome_none, Bool.true_bne, Bool.false_bne]
    refine ⟨s, pic, rfl, ok, okp, hp, ?_⟩
    simp only [dMeth, dSeq, dIfS, dTest, dOp, dName, dC, dRet, dLstF, dCons, dNil, dTup, dNext, dAsg, dLstM, gdName, dDrop, dM, dM0, dIf, dAnd, dOr, dNot, dAndV, dOrV, dNotV, dChain, dFz, dRetF, dRetN, dBreak, dCont, dCB, gdTup, gdCons, gdNil, gdSub, dNeg, dAug, dAugS, dFrz, dPar, dNoPart, dPart, dSlice, dYes, wipeD, i2, d1, d2, d3, startD, List.map_cons, List.map_nil, List.length_cons, List.length_nil, List.cons_append, List.nil_append, List.append_nil, List.getElem?_cons_zero, List.getElem?_cons_succ, List.getElem?_nil, List.replicate, List.set_cons_succ, List.set_cons_zero, Nat.reduceAdd, Nat.reduceSub, Nat.reduceLeDiff, run_eqi, run_nei, run_lt, run_le, run_gt, run_ge, run_addi, run_iaddi, true_and, and_true, Bool.not_eq_true, Bool.not_true, Bool.not_false, if_true, if_false, Bool.false_eq_true, ite_true, ite_false, reduceIte, reduceCtorEq, decide_eq_true_eq, decide_eq_false_iff_not, Option.isSome_some, Option.isSome_none, Bool.true_bne, Bool.false_bne]
    refine ⟨ins_sky (by decide), s, rfl, ok, ?_⟩
    simp only [run_len_eT, dSeq, dIfS, dTest, dOp, dName, dC, dRet, dLstF, dCons, dNil, dTup, dNext, dAsg, dLstM, gdName, dDrop, dM, dM0, dIf, dAnd, dOr, dNot, dAndV, dOrV, dNotV, dChain, dFz, dRetF, dRetN, dBreak, dCont, dCB, gdTup, gdCons, gdNil, gdSub, dNeg, dAug, dAugS, dFrz, dPar, dNoPart, dPart, dSlice, dYes, wipeD, i2, d1, d2, d3, startD, List.map_cons, List.map_nil, List.length_cons, List.length_nil, List.cons_append, List.nil_append, List.append_nil, List.getElem?_cons_zero, List.getElem?_cons_succ, List.getElem?_nil, List.replicate, List.set_cons_succ, List.set_cons_zero, Nat.reduceAdd, Nat.reduceSub, Nat.reduceLeDiff, run_eqi, run_nei, run_lt, run_le, run_gt, run_ge, run_addi, run_iaddi, true_and, and_true, Bool.not_eq_true, Bool.not_true, Bool.not_false, if_true, if_false, Bool.false_eq_true, ite_true, ite_false, reduceIte, reduceCtorEq, decide_eq_true_eq, decide_eq_false_iff_not, Option.isSome_some, Option.isSome_none, Bool.true_bne, Bool.false_bne]
    have e : lookL s pic = standL s := by
      unfold lookL
      rw [List.filter_eq_self]
      intro st _
      unfold lookB
      rw [decide_eq_true_eq]
      omega
    rw [e] at q
    exact q
  · rw [if_neg h1]
    simp only [dFor, diSeq, dFld, fl_turns, eT, dSeq, dIfS, dTest, dOp, dName, dC, dRet, dLstF, dCons, dNil, dTup, dNext, dAsg, dLstM, gdName, dDrop, dM, dM0, dIf, dAnd, dOr, dNot, dAndV, dOrV, dNotV, dChain, dFz, dRetF, dRetN, dBreak, dCont, dCB, gdTup, gdCons, gdNil, gdSub, dNeg, dAug, dAugS, dFrz, dPar, dNoPart, dPart, dSlice, dYes, wipeD, i2, d1, d2, d3, startD, List.map_cons, List.map_nil, List.length_cons, List.length_nil, List.cons_append, List.nil_append, List.append_nil, List.getElem?_cons_zero, List.getElem?_cons_succ, List.getElem?_nil, List.replicate, List.set_cons_succ, List.set_cons_zero, Nat.reduceAdd, Nat.reduceSub, Nat.reduceLeDiff, run_eqi, run_nei, run_lt, run_le, run_gt, run_ge, run_addi, run_iaddi, true_and, and_true, Bool.not_eq_true, Bool.not_true, Bool.not_false, if_true, if_false, Bool.false_eq_true, ite_true, ite_false, reduceIte, reduceCtorEq, decide_eq_true_eq, decide_eq_false_iff_not, Option.isSome_some, Option.isSome_none, Bool.true_bne, Bool.false_bne]
    refine ⟨fun i η G' => ∃ a b c, η = [some (sD s), some (eT e3 pic), some (.int ((pic.length : Int) - s.cam.fa)), some (.ref p), some (.int (((s.tu.take i).flatMap fun t => (colS s t).filter (lookB s pic)).length : Int)), a, b, c] ∧ G' = up G p (.lst (((s.tu.take i).flatMap fun t => (colS s t).filter (fitb s pic)).map e3)), ⟨none, none, none, rfl, rfl⟩, fun _ _ _ _ => trivial, ?_, ?_⟩
    · rintro i d η G' hd ⟨a, b, c, rfl, rfl⟩
      obtain ⟨t, ht, rfl⟩ := get_map hd
      have hi := (List.getElem?_eq_some_iff.mp ht).1
      have hbig : ((s.tu.take i).flatMap fun t => (colS s t).filter (fitb s pic)).length ≤ 40000 := by
        rw [← fm_filter]
        exact filter_len_le (stand_len ok i)
      simp only [dSeq, dIfS, dTest, dOp, dName, dC, dRet, dLstF, dCons, dNil, dTup, dNext, dAsg, dLstM, gdName, dDrop, dM, dM0, dIf, dAnd, dOr, dNot, dAndV, dOrV, dNotV, dChain, dFz, dRetF, dRetN, dBreak, dCont, dCB, gdTup, gdCons, gdNil, gdSub, dNeg, dAug, dAugS, dFrz, dPar, dNoPart, dPart, dSlice, dYes, wipeD, i2, d1, d2, d3, startD, List.map_cons, List.map_nil, List.length_cons, List.length_nil, List.cons_append, List.nil_append, List.append_nil, List.getElem?_cons_zero, List.getElem?_cons_succ, List.getElem?_nil, List.replicate, List.set_cons_succ, List.set_cons_zero, Nat.reduceAdd, Nat.reduceSub, Nat.reduceLeDiff, run_eqi, run_nei, run_lt, run_le, run_gt, run_ge, run_addi, run_iaddi, true_and, and_true, Bool.not_eq_true, Bool.not_true, Bool.not_false, if_true, if_false, Bool.false_eq_true, ite_true, ite_false, reduceIte, reduceCtorEq, decide_eq_true_eq, decide_eq_false_iff_not, Option.isSome_some, Option.isSome_none, Bool.true_bne, Bool.false_bne]
      refine ⟨s, pic, t, rfl, ok, okp, fun kvs vo => ?_⟩
      refine run_sortedD tk2 (dicN_eD k2 D.int kvs _) al2 (st2 _) (fun a => Nat.le_trans (depth_e2 a) (by decide)) fun w hw => ?_
      have pw : p ≠ w := fun e => by subst e; rw [up_same] at hw; cases hw
      have hGw : G w = none := by rw [up_ne pw.symm] at hw; exact hw
      simp only [up_same, dl_up hw, dSeq, dIfS, dTest, dOp, dName, dC, dRet, dLstF, dCons, dNil, dTup, dNext, dAsg, dLstM, gdName, dDrop, dM, dM0, dIf, dAnd, dOr, dNot, dAndV, dOrV, dNotV, dChain, dFz, dRetF, dRetN, dBreak, dCont, dCB, gdTup, gdCons, gdNil, gdSub, dNeg, dAug, dAugS, dFrz, dPar, dNoPart, dPart, dSlice, dYes, wipeD, i2, d1, d2, d3, startD, List.map_cons, List.map_nil, List.length_cons, List.length_nil, List.cons_append, List.nil_append, List.append_nil, List.getElem?_cons_zero, List.getElem?_cons_succ, List.getElem?_nil, List.replicate, List.set_cons_succ, List.set_cons_zero, Nat.reduceAdd, Nat.reduceSub, Nat.reduceLeDiff, run_eqi, run_nei, run_lt, run_le, run_gt, run_ge, run_addi, run_iaddi, true_and, and_true, Bool.not_eq_true, Bool.not_true, Bool.not_false, if_true, if_false, Bool.false_eq_true, ite_true, ite_false, reduceIte, reduceCtorEq, decide_eq_true_eq, decide_eq_false_iff_not, Option.isSome_some, Option.isSome_none, Bool.true_bne, Bool.false_bne]
      rw [srt_keys vo]
      refine ⟨fun j η G' => ∃ c, η = [some (sD s), some (eT e3 pic), some (.int ((pic.length : Int) - s.cam.fa)), some (.ref p), some (.int (((s.tu.take i).flatMap fun t => (colS s t).filter (lookB s pic)).length + ((((rectL s).filter fun sh => decide (vtsA s pic t sh ≠ 0)).take j).filter fun sh => lookB s pic (atT t sh)).length : Int)), some (.int t), some (eD k2 .int kvs), c] ∧ G' = up G p (.lst ((((s.tu.take i).flatMap fun t => (colS s t).filter (fitb s pic)) ++ ((((rectL s).filter fun sh => decide (vtsA s pic t sh ≠ 0)).take j).filter fun sh => fitb s pic (atT t sh)).map (atT t)).map e3)), ⟨c, by simp, by simp⟩, fun _ _ _ _ => trivial, ?_, ?_⟩
      · rintro j d η G' hd ⟨c, rfl, rfl⟩
        obtain ⟨sh, hsh, rfl⟩ := get_map hd
        have hm := List.mem_of_getElem? hsh
        rw [List.mem_filter, decide_eq_true_eq] at hm
        have hv : aget kvs sh = some (vtsA s pic t sh : Int) := by rw [vo.at_]; unfold cntO; rw [if_neg hm.2]
        have hv2 := vtsA_at (pic := pic) (t := t) (rect_mem.mp hm.1)
        simp only [dSeq, dIfS, dTest, dOp, dName, dC, dRet, dLstF, dCons, dNil, dTup, dNext, dAsg, dLstM, gdName, dDrop, dM, dM0, dIf, dAnd, dOr, dNot, dAndV, dOrV, dNotV, dChain, dFz, dRetF, dRetN, dBreak, dCont, dCB, gdTup, gdCons, gdNil, gdSub, dNeg, dAug, dAugS, dFrz, dPar, dNoPart, dPart, dSlice, dYes, wipeD, i2, d1, d2, d3, startD, List.map_cons, List.map_nil, List.length_cons, List.length_nil, List.cons_append, List.nil_append, List.append_nil, List.getElem?_cons_zero, List.getElem?_cons_succ, List.getElem?_nil, List.replicate, List.set_cons_succ, List.set_cons_zero, Nat.reduceAdd, Nat.reduceSub, Nat.reduceLeDiff, run_eqi, run_nei, run_lt, run_le, run_gt, run_ge, run_addi, run_iaddi, true_and, and_true, Bool.not_eq_true, Bool.not_true, Bool.not_false, if_true, if_false, Bool.false_eq_true, ite_true, ite_false, reduceIte, reduceCtorEq, decide_eq_true_eq, decide_eq_false_iff_not, Option.isSome_some, Option.isSome_none, Bool.true_bne, Bool.false_bne]
        refine run_ixD tk2 (f := D.int) (a := sh) (dicN_eD k2 D.int kvs _) hv ?_
        simp only [dSeq, dIfS, dTest, dOp, dName, dC, dRet, dLstF, dCons, dNil, dTup, dNext, dAsg, dLstM, gdName, dDrop, dM, dM0, dIf, dAnd, dOr, dNot, dAndV, dOrV, dNotV, dChain, dFz, dRetF, dRetN, dBreak, dCont, dCB, gdTup, gdCons, gdNil, gdSub, dNeg, dAug, dAugS, dFrz, dPar, dNoPart, dPart, dSlice, dYes, wipeD, i2, d1, d2, d3, startD, List.map_cons, List.map_nil, List.length_cons, List.length_nil, List.cons_append, List.nil_append, List.append_nil, List.getElem?_cons_zero, List.getElem?_cons_succ, List.getElem?_nil, List.replicate, List.set_cons_succ, List.set_cons_zero, Nat.reduceAdd, Nat.reduceSub, Nat.reduceLeDiff, run_eqi, run_nei, run_lt, run_le, run_gt, run_ge, run_addi, run_iaddi, true_and, and_true, Bool.not_eq_true, Bool.not_true, Bool.not_false, if_true, if_false, Bool.false_eq_true, ite_true, ite_false, reduceIte, reduceCtorEq, decide_eq_true_eq, decide_eq_false_iff_not, Option.isSome_some, Option.isSome_none, Bool.true_bne, Bool.false_bne]
        rw [hv2]
        by_cases h2 : (pic.length : Int) - s.cam.fa ≤ vts s pic (atT t sh)
        · rw [if_pos h2]
          have lb : lookB s pic (atT t sh) = true := decide_eq_true h2
          simp only [dStar, e2, dSeq, dIfS, dTest, dOp, dName, dC, dRet, dLstF, dCons, dNil, dTup, dNext, dAsg, dLstM, gdName, dDrop, dM, dM0, dIf, dAnd, dOr, dNot, dAndV, dOrV, dNotV, dChain, dFz, dRetF, dRetN, dBreak, dCont, dCB, gdTup, gdCons, gdNil, gdSub, dNeg, dAug, dAugS, dFrz, dPar, dNoPart, dPart, dSlice, dYes, wipeD, i2, d1, d2, d3, startD, List.map_cons, List.map_nil, List.length_cons, List.length_nil, List.cons_append, List.nil_append, List.append_nil, List.getElem?_cons_zero, List.getElem?_cons_succ, List.getElem?_nil, List.replicate, List.set_cons_succ, List.set_cons_zero, Nat.reduceAdd, Nat.reduceSub, Nat.reduceLeDiff, run_eqi, run_nei, run_lt, run_le, run_gt, run_ge, run_addi, run_iaddi, true_and, and_true, Bool.not_eq_true, Bool.not_true, Bool.not_false, if_true, if_false, Bool.false_eq_true, ite_true, ite_false, reduceIte, reduceCtorEq, decide_eq_true_eq, decide_eq_false_iff_not, Option.isSome_some, Option.isSome_none, Bool.true_bne, Bool.false_bne]
          refine ⟨s, pic, atT t sh, rfl, ok.cs, hp, ?_⟩
          cases e : fitb s pic (atT t sh) with
          | true =>
            simp only [dSeq, dIfS, dTest, dOp, dName, dC, dRet, dLstF, dCons, dNil, dTup, dNext, dAsg, dLstM, gdName, dDrop, dM, dM0, dIf, dAnd, dOr, dNot, dAndV, dOrV, dNotV, dChain, dFz, dRetF, dRetN, dBreak, dCont, dCB, gdTup, gdCons, gdNil, gdSub, dNeg, dAug, dAugS, dFrz, dPar, dNoPart, dPart, dSlice, dYes, wipeD, i2, d1, d2, d3, startD, List.map_cons, List.map_nil, List.length_cons, List.length_nil, List.cons_append, List.nil_append, List.append_nil, List.getElem?_cons_zero, List.getElem?_cons_succ, List.getElem?_nil, List.replicate, List.set_cons_succ, List.set_cons_zero, Nat.reduceAdd, Nat.reduceSub, Nat.reduceLeDiff, run_eqi, run_nei, run_lt, run_le, run_gt, run_ge, run_addi, run_iaddi, true_and, and_true, Bool.not_eq_true, Bool.not_true, Bool.not_false, if_true, if_false, Bool.false_eq_true, ite_true, ite_false, reduceIte, reduceCtorEq, decide_eq_true_eq, decide_eq_false_iff_not, Option.isSome_some, Option.isSome_none, Bool.true_bne, Bool.false_bne]
            refine ⟨by simp only [tyD, up_same], (run_app (y := e3 (atT t sh)) up_same (small_line ?_) ?_).2⟩
            · rw [List.length_map, List.length_append, List.length_map]
              have : ((((rectL s).filter fun sh => decide (vtsA s pic t sh ≠ 0)).take j).filter fun sh => fitb s pic (atT t sh)).length ≤ 10000 := filter_len_le (by rw [List.length_take]; exact Nat.le_trans (Nat.min_le_right _ _) (filter_len_le (rect_len ok)))
              omega
            · rw [up_up]
              refine ⟨_, (by repeat (first | exact Le.nil | apply Le.keep | apply Le.drop)), some (e2 sh), ?_, ?_⟩
              · rw [take_sn hsh, List.filter_append]
                simp only [List.filter_cons, lb, if_true, List.filter_nil, List.length_append, List.length_singleton, Int.natCast_add, Int.add_assoc]
                rfl
              · rw [take_sn hsh, List.filter_append]
                simp only [List.filter_cons, e, if_true, List.filter_nil, List.map_append, List.map_cons, List.map_nil, List.append_assoc]
          | false =>
            simp only [dSeq, dIfS, dTest, dOp, dName, dC, dRet, dLstF, dCons, dNil, dTup, dNext, dAsg, dLstM, gdName, dDrop, dM, dM0, dIf, dAnd, dOr, dNot, dAndV, dOrV, dNotV, dChain, dFz, dRetF, dRetN, dBreak, dCont, dCB, gdTup, gdCons, gdNil, gdSub, dNeg, dAug, dAugS, dFrz, dPar, dNoPart, dPart, dSlice, dYes, wipeD, i2, d1, d2, d3, startD, List.map_cons, List.map_nil, List.length_cons, List.length_nil, List.cons_append, List.nil_append, List.append_nil, List.getElem?_cons_zero, List.getElem?_cons_succ, List.getElem?_nil, List.replicate, List.set_cons_succ, List.set_cons_zero, Nat.reduceAdd, Nat.reduceSub, Nat.reduceLeDiff, run_eqi, run_nei, run_lt, run_le, run_gt, run_ge, run_addi, run_iaddi, true_and, and_true, Bool.not_eq_true, Bool.not_true, Bool.not_false, if_true, if_false, Bool.false_eq_true, ite_true, ite_false, reduceIte, reduceCtorEq, decide_eq_true_eq, decide_eq_false_iff_not, Option.isSome_some, Option.isSome_none, Bool.true_bne, Bool.false_bne]
            refine ⟨_, (by repeat (first | exact Le.nil | apply Le.keep | apply Le.drop)), some (e2 sh), ?_, ?_⟩
            · rw [take_sn hsh, List.filter_append]
              simp only [List.filter_cons, lb, if_true, List.filter_nil, List.length_append, List.length_singleton, Int.natCast_add, Int.add_assoc]
              rfl
            · rw [take_sn hsh, List.filter_append]
              simp only [List.filter_cons, e, if_false, List.filter_nil, List.append_nil, Bool.false_eq_true]
        · rw [if_neg h2]
          have lb : lookB s pic (atT t sh) = false := decide_eq_false h2
          have fb : fitb s pic (atT t sh) = false := fitb_no fun z => h2 (fitA_votes z.1)
          refine ⟨_, (by repeat (first | exact Le.nil | apply Le.keep | apply Le.drop)), some (e2 sh), ?_, ?_⟩
          · rw [take_sn hsh, List.filter_append]
            simp only [List.filter_cons, lb, if_false, List.filter_nil, List.append_nil, Bool.false_eq_true]
          · rw [take_sn hsh, List.filter_append]
            simp only [List.filter_cons, fb, if_false, List.filter_nil, List.append_nil, Bool.false_eq_true]
      · rintro η G' ⟨c, rfl, rfl⟩
        refine ⟨_, (by repeat (first | exact Le.nil | apply Le.keep | apply Le.drop)), some (.int t), some (eD k2 .int kvs), c, ?_, ?_⟩
        · rw [List.length_map, List.take_length, fm_take ht, List.length_append]
          have := congrArg List.length (part_eq (s := s) (pic := pic) (t := t) (p := lookB s pic) fun st h => by
            unfold lookB at h
            rw [decide_eq_true_eq] at h
            omega)
          rw [List.length_map] at this
          rw [this, Int.natCast_add]
        · rw [List.length_map, List.take_length, fm_take ht]
          rw [part_eq (p := fitb s pic) fun st h => by
            have := fitA_votes (fitb_iff.mp h).1
            omega]
    · rintro η G' ⟨a, b, c, rfl, rfl⟩
      rw [List.length_map, List.take_length]
      simp only [up_same, dl_up hpn, dSeq, dIfS, dTest, dOp, dName, dC, dRet, dLstF, dCons, dNil, dTup, dNext, dAsg, dLstM, gdName, dDrop, dM, dM0, dIf, dAnd, dOr, dNot, dAndV, dOrV, dNotV, dChain, dFz, dRetF, dRetN, dBreak, dCont, dCB, gdTup, gdCons, gdNil, gdSub, dNeg, dAug, dAugS, dFrz, dPar, dNoPart, dPart, dSlice, dYes, wipeD, i2, d1, d2, d3, startD, List.map_cons, List.map_nil, List.length_cons, List.length_nil, List.cons_append, List.nil_append, List.append_nil, List.getElem?_cons_zero, List.getElem?_cons_succ, List.getElem?_nil, List.replicate, List.set_cons_succ, List.set_cons_zero, Nat.reduceAdd, Nat.reduceSub, Nat.reduceLeDiff, run_eqi, run_nei, run_lt, run_le, run_gt, run_ge, run_addi, run_iaddi, true_and, and_true, Bool.not_eq_true, Bool.not_true, Bool.not_false, if_true, if_false, Bool.false_eq_true, ite_true, ite_false, reduceIte, reduceCtorEq, decide_eq_true_eq, decide_eq_false_iff_not, Option.isSome_some, Option.isSome_none, Bool.true_bne, Bool.false_bne]
      unfold readL lookL standL at q
      rw [fm_filter, fm_filter] at q
      exact q
end M
namespace M
open PySem PySem.Spec PyProof.Rows L2 DL
variable [CA]

/-! ### Sky.__init__ -/
structure OkSI (tu : List Int) (ar : Int × Int × Int × Int) : Prop where
  ne : tu ≠ []
  t3 : ∀ t ∈ tu, 0 ≤ t ∧ t ≤ 3
  asc : tu.Pairwise (· < ·)
  tl : tu.length ≤ 4
  a1 : -1000000 ≤ ar.1 ∧ ar.1 ≤ ar.2.1 ∧ ar.2.1 ≤ 1000000
  a2 : -1000000 ≤ ar.2.2.1 ∧ ar.2.2.1 ≤ ar.2.2.2 ∧ ar.2.2.2 ≤ 1000000
  few : (tu.length : Int) * (ar.2.1 - ar.1 + 1) * (ar.2.2.2 - ar.2.2.1 + 1) ≤ 40000
def sp_Sky___init__ : DRn := fun ds G Q => ∃ (x : Addr) (s : Sk), ds = [.ref x, gD s.cs, cD s.cam, eT .int s.tu, e4 s.ar] ∧ G x = some (.ins CA.Sky []) ∧ OkSI s.tu s.ar ∧
  Q .non (up G x (.ins CA.Sky [("ground", gD s.cs), ("camera", cD s.cam), ("turns", eT .int s.tu), ("area", e4 s.ar)]))
abbrev N_Sky___init__ : List Str := ["self", "ground", "camera", "turns", "area", "turn", "one", "other", "number"]
def U_Sky___init___0 : DTS :=
    (dIfS (dOr (dNot (dTest (dCB (dIsi isT) (dCons (dName 3) (dCons (dC (.ty "tuple")) dNil))))) (dOr (dTest (dOp dEq (dName 3) (dTup dNil))) (dNot (dTest (dCB dAll (dCons (dFz (dLc (diSeq (dName 3)) (gdName 5) dYes (dCB sp_is_whole (dCons (dName 5) (dCons (dC (.int 0)) (dCons (dC (.int 3)) dNil)))) [5])) dNil))))))
    dNever
    dNext)
def U_Sky___init___1 : DTS :=
    (dIfS (dNot (dTest (dCB dAll (dCons (dFz (dLc (diZip (dCons (dName 3) (dCons (dSlice dSl (dName 3) (dPart (dC (.int 1))) dNoPart) dNil))) (gdTup (gdCons (gdName 6) (gdCons (gdName 7) gdNil)) 2) dYes (dOp dLt (dName 6) (dName 7)) [6, 7])) dNil))))
    dNever
    dNext)
def U_Sky___init___2 : DTS :=
    (dIfS (dOr (dNot (dTest (dCB (dIsi isT) (dCons (dName 4) (dCons (dC (.ty "tuple")) dNil))))) (dTest (dOp dNe (dCB dLen (dCons (dName 4) dNil)) (dC (.int 4)))))
    dNever
    dNext)
def U_Sky___init___3 : DTS :=
    (dIfS (dNot (dTest (dCB dAll (dCons (dFz (dLc (diSeq (dName 4)) (gdName 8) dYes (dCB sp_is_whole (dCons (dName 8) (dCons (dOp dSub (dC (.int 0)) (dC (.int 1000000))) (dCons (dC (.int 1000000)) dNil)))) [8])) dNil))))
    dNever
    dNext)
def U_Sky___init___4 : DTS :=
    (dIfS (dOr (dTest (dOp dGt (dOp dIx (dName 4) (dC (.int 0))) (dOp dIx (dName 4) (dC (.int 1))))) (dTest (dOp dGt (dOp dIx (dName 4) (dC (.int 2))) (dOp dIx (dName 4) (dC (.int 3))))))
    dNever
    dNext)
def U_Sky___init___5 : DTS :=
    (dIfS (dTest (dOp dGt (dOp dMul (dOp dMul (dCB dLen (dCons (dName 3) dNil)) (dOp dAdd (dOp dSub (dOp dIx (dName 4) (dC (.int 1))) (dOp dIx (dName 4) (dC (.int 0)))) (dC (.int 1)))) (dOp dAdd (dOp dSub (dOp dIx (dName 4) (dC (.int 3))) (dOp dIx (dName 4) (dC (.int 2)))) (dC (.int 1)))) (dC (.int 40000))))
    dNever
    dNext)
def U_Sky___init___6 : DTS :=
    (dFldS CA.Sky "ground" (dName 0) (dName 1))
def U_Sky___init___7 : DTS :=
    (dFldS CA.Sky "camera" (dName 0) (dName 2))
def U_Sky___init___8 : DTS :=
    (dFldS CA.Sky "turns" (dName 0) (dName 3))
def U_Sky___init___9 : DTS :=
    (dFldS CA.Sky "area" (dName 0) (dName 4))
def T_Sky___init___9 : DTS :=
    U_Sky___init___9
def T_Sky___init___8 : DTS :=
    (dSeq U_Sky___init___8 T_Sky___init___9)
def T_Sky___init___7 : DTS :=
    (dSeq U_Sky___init___7 T_Sky___init___8)
def T_Sky___init___6 : DTS :=
    (dSeq U_Sky___init___6 T_Sky___init___7)
def T_Sky___init___5 : DTS :=
    (dSeq U_Sky___init___5 T_Sky___init___6)
def T_Sky___init___4 : DTS :=
    (dSeq U_Sky___init___4 T_Sky___init___5)
def T_Sky___init___3 : DTS :=
    (dSeq U_Sky___init___3 T_Sky___init___4)
def T_Sky___init___2 : DTS :=
    (dSeq U_Sky___init___2 T_Sky___init___3)
def T_Sky___init___1 : DTS :=
    (dSeq U_Sky___init___1 T_Sky___init___2)
def T_Sky___init__ : DTS :=
    (dSeq U_Sky___init___0 T_Sky___init___1)
theorem len_Sky___init__ : ∀ ds G Q, sp_Sky___init__ ds G Q → ds.length = 5 := fun ds G Q ⟨x, c, e, _⟩ => by rw [e]; rfl
def stSk (x : Addr) (s : Sk) : DSt := [some (.ref x), some (gD s.cs), some (cD s.cam), some (eT .int s.tu), some (e4 s.ar), none, none, none, none]
theorem sky_u0 {F : DEnds} {x : Addr} {s : Sk} {G : DHp} (ok : OkSI s.tu s.ar) (k : F.nx (stSk x s) G) : U_Sky___init___0 F (stSk x s) G := by
  simp only [U_Sky___init___0, stSk, eT, isi_tup_tup, dSeq, dIfS, dTest, dOp, dName, dC, dRet, dLstF, dCons, dNil, dTup, dNext, dAsg, dLstM, gdName, dDrop, dM, dM0, dIf, dAnd, dOr, dNot, dAndV, dOrV, dNotV, dChain, dFz, dRetF, dRetN, dBreak, dCont, dCB, gdTup, gdCons, gdNil, gdSub, dNeg, dAug, dAugS, dFrz, dPar, dNoPart, dPart, dSlice, dYes, wipeD, i2, d1, d2, d3, startD, List.map_cons, List.map_nil, List.length_cons, List.length_nil, List.cons_append, List.nil_append, List.append_nil, List.getElem?_cons_zero, List.getElem?_cons_succ, List.getElem?_nil, List.replicate, List.set_cons_succ, List.set_cons_zero, Nat.reduceAdd, Nat.reduceSub, Nat.reduceLeDiff, run_eqi, run_nei, run_lt, run_le, run_gt, run_ge, run_addi, run_iaddi, true_and, and_true, Bool.not_eq_true, Bool.not_true, Bool.not_false, if_true, if_false, Bool.false_eq_true, ite_true, ite_false, reduceIte, reduceCtorEq, decide_eq_true_eq, decide_eq_false_iff_not, Option.isSome_some, Option.isSome_none, Bool.true_bne, Bool.false_bne]
  refine run_eq (clean_eT (f := .int) clean_int s.tu) rfl (Nat.le_trans (depth_eT (B := 0) (f := .int) (fun a => Nat.le_of_eq (depth_int a)) s.tu) (by decide)) (show PyData.depth (py (.nd .tup [])) ≤ 64 by decide) false ⟨fun z => (by cases z), fun z => ?_⟩ ?_
  · exfalso
    have z2 : D.nd .tup (s.tu.map .int) = .nd .tup [] := z
    have z3 : s.tu.map D.int = [] := by injection z2
    exact ok.ne (List.map_eq_nil_iff.mp z3)
  · simp only [dSeq, dIfS, dTest, dOp, dName, dC, dRet, dLstF, dCons, dNil, dTup, dNext, dAsg, dLstM, gdName, dDrop, dM, dM0, dIf, dAnd, dOr, dNot, dAndV, dOrV, dNotV, dChain, dFz, dRetF, dRetN, dBreak, dCont, dCB, gdTup, gdCons, gdNil, gdSub, dNeg, dAug, dAugS, dFrz, dPar, dNoPart, dPart, dSlice, dYes, wipeD, i2, d1, d2, d3, startD, List.map_cons, List.map_nil, List.length_cons, List.length_nil, List.cons_append, List.nil_append, List.append_nil, List.getElem?_cons_zero, List.getElem?_cons_succ, List.getElem?_nil, List.replicate, List.set_cons_succ, List.set_cons_zero, Nat.reduceAdd, Nat.reduceSub, Nat.reduceLeDiff, run_eqi, run_nei, run_lt, run_le, run_gt, run_ge, run_addi, run_iaddi, true_and, and_true, Bool.not_eq_true, Bool.not_true, Bool.not_false, if_true, if_false, Bool.false_eq_true, ite_true, ite_false, reduceIte, reduceCtorEq, decide_eq_true_eq, decide_eq_false_iff_not, Option.isSome_some, Option.isSome_none, Bool.true_bne, Bool.false_bne]
    refine lc_map (xs := s.tu) (f := .int) (fun t : Int => .bl (decide (0 ≤ t ∧ t ≤ 3))) (by have := ok.tl; omega) (fun R r => by simp only [diSeq, dSeq, dIfS, dTest, dOp, dName, dC, dRet, dLstF, dCons, dNil, dTup, dNext, dAsg, dLstM, gdName, dDrop, dM, dM0, dIf, dAnd, dOr, dNot, dAndV, dOrV, dNotV, dChain, dFz, dRetF, dRetN, dBreak, dCont, dCB, gdTup, gdCons, gdNil, gdSub, dNeg, dAug, dAugS, dFrz, dPar, dNoPart, dPart, dSlice, dYes, wipeD, i2, d1, d2, d3, startD, List.map_cons, List.map_nil, List.length_cons, List.length_nil, List.cons_append, List.nil_append, List.append_nil, List.getElem?_cons_zero, List.getElem?_cons_succ, List.getElem?_nil, List.replicate, List.set_cons_succ, List.set_cons_zero, Nat.reduceAdd, Nat.reduceSub, Nat.reduceLeDiff, run_eqi, run_nei, run_lt, run_le, run_gt, run_ge, run_addi, run_iaddi, true_and, and_true, Bool.not_eq_true, Bool.not_true, Bool.not_false, if_true, if_false, Bool.false_eq_true, ite_true, ite_false, reduceIte, reduceCtorEq, decide_eq_true_eq, decide_eq_false_iff_not, Option.isSome_some, Option.isSome_none, Bool.true_bne, Bool.false_bne]; exact r) (fun t ht G1 A a => ?_) fun p hp => ?_
    · simp only [dSeq, dIfS, dTest, dOp, dName, dC, dRet, dLstF, dCons, dNil, dTup, dNext, dAsg, dLstM, gdName, dDrop, dM, dM0, dIf, dAnd, dOr, dNot, dAndV, dOrV, dNotV, dChain, dFz, dRetF, dRetN, dBreak, dCont, dCB, gdTup, gdCons, gdNil, gdSub, dNeg, dAug, dAugS, dFrz, dPar, dNoPart, dPart, dSlice, dYes, wipeD, i2, d1, d2, d3, startD, List.map_cons, List.map_nil, List.length_cons, List.length_nil, List.cons_append, List.nil_append, List.append_nil, List.getElem?_cons_zero, List.getElem?_cons_succ, List.getElem?_nil, List.replicate, List.set_cons_succ, List.set_cons_zero, Nat.reduceAdd, Nat.reduceSub, Nat.reduceLeDiff, run_eqi, run_nei, run_lt, run_le, run_gt, run_ge, run_addi, run_iaddi, true_and, and_true, Bool.not_eq_true, Bool.not_true, Bool.not_false, if_true, if_false, Bool.false_eq_true, ite_true, ite_false, reduceIte, reduceCtorEq, decide_eq_true_eq, decide_eq_false_iff_not, Option.isSome_some, Option.isSome_none, Bool.true_bne, Bool.false_bne]
      exact ⟨_, _, _, rfl, rfl, rfl, a⟩
    · simp only [up_same, dl_up hp, DO.tree, dSeq, dIfS, dTest, dOp, dName, dC, dRet, dLstF, dCons, dNil, dTup, dNext, dAsg, dLstM, gdName, dDrop, dM, dM0, dIf, dAnd, dOr, dNot, dAndV, dOrV, dNotV, dChain, dFz, dRetF, dRetN, dBreak, dCont, dCB, gdTup, gdCons, gdNil, gdSub, dNeg, dAug, dAugS, dFrz, dPar, dNoPart, dPart, dSlice, dYes, wipeD, i2, d1, d2, d3, startD, List.map_cons, List.map_nil, List.length_cons, List.length_nil, List.cons_append, List.nil_append, List.append_nil, List.getElem?_cons_zero, List.getElem?_cons_succ, List.getElem?_nil, List.replicate, List.set_cons_succ, List.set_cons_zero, Nat.reduceAdd, Nat.reduceSub, Nat.reduceLeDiff, run_eqi, run_nei, run_lt, run_le, run_gt, run_ge, run_addi, run_iaddi, true_and, and_true, Bool.not_eq_true, Bool.not_true, Bool.not_false, if_true, if_false, Bool.false_eq_true, ite_true, ite_false, reduceIte, reduceCtorEq, decide_eq_true_eq, decide_eq_false_iff_not, Option.isSome_some, Option.isSome_none, Bool.true_bne, Bool.false_bne]
      refine run_all ?_
      rw [List.all_eq_true.mpr fun t ht => decide_eq_true (ok.t3 t ht)]
      simp only [dSeq, dIfS, dTest, dOp, dName, dC, dRet, dLstF, dCons, dNil, dTup, dNext, dAsg, dLstM, gdName, dDrop, dM, dM0, dIf, dAnd, dOr, dNot, dAndV, dOrV, dNotV, dChain, dFz, dRetF, dRetN, dBreak, dCont, dCB, gdTup, gdCons, gdNil, gdSub, dNeg, dAug, dAugS, dFrz, dPar, dNoPart, dPart, dSlice, dYes, wipeD, i2, d1, d2, d3, startD, List.map_cons, List.map_nil, List.length_cons, List.length_nil, List.cons_append, List.nil_append, List.append_nil, List.getElem?_cons_zero, List.getElem?_cons_succ, List.getElem?_nil, List.replicate, List.set_cons_succ, List.set_cons_zero, Nat.reduceAdd, Nat.reduceSub, Nat.reduceLeDiff, run_eqi, run_nei, run_lt, run_le, run_gt, run_ge, run_addi, run_iaddi, true_and, and_true, Bool.not_eq_true, Bool.not_true, Bool.not_false, if_true, if_false, Bool.false_eq_true, ite_true, ite_false, reduceIte, reduceCtorEq, decide_eq_true_eq, decide_eq_false_iff_not, Option.isSome_some, Option.isSome_none, Bool.true_bne, Bool.false_bne]
      exact k
theorem sky_u1 {F : DEnds} {x : Addr} {s : Sk} {G : DHp} (ok : OkSI s.tu s.ar) (k : F.nx (stSk x s) G) : U_Sky___init___1 F (stSk x s) G := by
  simp only [U_Sky___init___1, stSk, dSeq, dIfS, dTest, dOp, dName, dC, dRet, dLstF, dCons, dNil, dTup, dNext, dAsg, dLstM, gdName, dDrop, dM, dM0, dIf, dAnd, dOr, dNot, dAndV, dOrV, dNotV, dChain, dFz, dRetF, dRetN, dBreak, dCont, dCB, gdTup, gdCons, gdNil, gdSub, dNeg, dAug, dAugS, dFrz, dPar, dNoPart, dPart, dSlice, dYes, wipeD, i2, d1, d2, d3, startD, List.map_cons, List.map_nil, List.length_cons, List.length_nil, List.cons_append, List.nil_append, List.append_nil, List.getElem?_cons_zero, List.getElem?_cons_succ, List.getElem?_nil, List.replicate, List.set_cons_succ, List.set_cons_zero, Nat.reduceAdd, Nat.reduceSub, Nat.reduceLeDiff, run_eqi, run_nei, run_lt, run_le, run_gt, run_ge, run_addi, run_iaddi, true_and, and_true, Bool.not_eq_true, Bool.not_true, Bool.not_false, if_true, if_false, Bool.false_eq_true, ite_true, ite_false, reduceIte, reduceCtorEq, decide_eq_true_eq, decide_eq_false_iff_not, Option.isSome_some, Option.isSome_none, Bool.true_bne, Bool.false_bne]
  refine lc_map (xs := s.tu.zip (s.tu.drop 1)) (f := e2) (fun t : Int × Int => .bl (decide (t.1 < t.2))) (by have := ok.tl; rw [List.length_zip]; omega) (fun R r => ?_) (fun t ht G1 A a => ?_) fun p hp => ?_
  · simp only [diZip, eT, dSeq, dIfS, dTest, dOp, dName, dC, dRet, dLstF, dCons, dNil, dTup, dNext, dAsg, dLstM, gdName, dDrop, dM, dM0, dIf, dAnd, dOr, dNot, dAndV, dOrV, dNotV, dChain, dFz, dRetF, dRetN, dBreak, dCont, dCB, gdTup, gdCons, gdNil, gdSub, dNeg, dAug, dAugS, dFrz, dPar, dNoPart, dPart, dSlice, dYes, wipeD, i2, d1, d2, d3, startD, List.map_cons, List.map_nil, List.length_cons, List.length_nil, List.cons_append, List.nil_append, List.append_nil, List.getElem?_cons_zero, List.getElem?_cons_succ, List.getElem?_nil, List.replicate, List.set_cons_succ, List.set_cons_zero, Nat.reduceAdd, Nat.reduceSub, Nat.reduceLeDiff, run_eqi, run_nei, run_lt, run_le, run_gt, run_ge, run_addi, run_iaddi, true_and, and_true, Bool.not_eq_true, Bool.not_true, Bool.not_false, if_true, if_false, Bool.false_eq_true, ite_true, ite_false, reduceIte, reduceCtorEq, decide_eq_true_eq, decide_eq_false_iff_not, Option.isSome_some, Option.isSome_none, Bool.true_bne, Bool.false_bne]
    unfold dSl
    have e : cutD (s.tu.map D.int) (some 1) none = (s.tu.drop 1).map .int := by
      have := cut_drop (s.tu.map D.int) 1
      rw [List.map_drop]
      exact this
    dsimp only [der]
    rw [e]
    have e2' : zipL (s.tu.map D.int) ((s.tu.drop 1).map .int) = (s.tu.zip (s.tu.drop 1)).map e2 := by
      unfold zipL
      rw [List.zipWith_map, List.zip, List.map_zipWith]
      rfl
    rw [e2']
    exact r
  · simp only [e2, dSeq, dIfS, dTest, dOp, dName, dC, dRet, dLstF, dCons, dNil, dTup, dNext, dAsg, dLstM, gdName, dDrop, dM, dM0, dIf, dAnd, dOr, dNot, dAndV, dOrV, dNotV, dChain, dFz, dRetF, dRetN, dBreak, dCont, dCB, gdTup, gdCons, gdNil, gdSub, dNeg, dAug, dAugS, dFrz, dPar, dNoPart, dPart, dSlice, dYes, wipeD, i2, d1, d2, d3, startD, List.map_cons, List.map_nil, List.length_cons, List.length_nil, List.cons_append, List.nil_append, List.append_nil, List.getElem?_cons_zero, List.getElem?_cons_succ, List.getElem?_nil, List.replicate, List.set_cons_succ, List.set_cons_zero, Nat.reduceAdd, Nat.reduceSub, Nat.reduceLeDiff, run_eqi, run_nei, run_lt, run_le, run_gt, run_ge, run_addi, run_iaddi, true_and, and_true, Bool.not_eq_true, Bool.not_true, Bool.not_false, if_true, if_false, Bool.false_eq_true, ite_true, ite_false, reduceIte, reduceCtorEq, decide_eq_true_eq, decide_eq_false_iff_not, Option.isSome_some, Option.isSome_none, Bool.true_bne, Bool.false_bne]
    exact a
  · simp only [up_same, dl_up hp, DO.tree, dSeq, dIfS, dTest, dOp, dName, dC, dRet, dLstF, dCons, dNil, dTup, dNext, dAsg, dLstM, gdName, dDrop, dM, dM0, dIf, dAnd, dOr, dNot, dAndV, dOrV, dNotV, dChain, dFz, dRetF, dRetN, dBreak, dCont, dCB, gdTup, gdCons, gdNil, gdSub, dNeg, dAug, dAugS, dFrz, dPar, dNoPart, dPart, dSlice, dYes, wipeD, i2, d1, d2, d3, startD, List.map_cons, List.map_nil, List.length_cons, List.length_nil, List.cons_append, List.nil_append, List.append_nil, List.getElem?_cons_zero, List.getElem?_cons_succ, List.getElem?_nil, List.replicate, List.set_cons_succ, List.set_cons_zero, Nat.reduceAdd, Nat.reduceSub, Nat.reduceLeDiff, run_eqi, run_nei, run_lt, run_le, run_gt, run_ge, run_addi, run_iaddi, true_and, and_true, Bool.not_eq_true, Bool.not_true, Bool.not_false, if_true, if_false, Bool.false_eq_true, ite_true, ite_false, reduceIte, reduceCtorEq, decide_eq_true_eq, decide_eq_false_iff_not, Option.isSome_some, Option.isSome_none, Bool.true_bne, Bool.false_bne]
    refine run_all ?_
    rw [List.all_eq_true.mpr fun t ht => decide_eq_true ?_]
    · simp only [dSeq, dIfS, dTest, dOp, dName, dC, dRet, dLstF, dCons, dNil, dTup, dNext, dAsg, dLstM, gdName, dDrop, dM, dM0, dIf, dAnd, dOr, dNot, dAndV, dOrV, dNotV, dChain, dFz, dRetF, dRetN, dBreak, dCont, dCB, gdTup, gdCons, gdNil, gdSub, dNeg, dAug, dAugS, dFrz, dPar, dNoPart, dPart, dSlice, dYes, wipeD, i2, d1, d2, d3, startD, List.map_cons, List.map_nil, List.length_cons, List.length_nil, List.cons_append, List.nil_append, List.append_nil, List.getElem?_cons_zero, List.getElem?_cons_succ, List.getElem?_nil, List.replicate, List.set_cons_succ, List.set_cons_zero, Nat.reduceAdd, Nat.reduceSub, Nat.reduceLeDiff, run_eqi, run_nei, run_lt, run_le, run_gt, run_ge, run_addi, run_iaddi, true_and, and_true, Bool.not_eq_true, Bool.not_true, Bool.not_false, if_true, if_false, Bool.false_eq_true, ite_true, ite_false, reduceIte, reduceCtorEq, decide_eq_true_eq, decide_eq_false_iff_not, Option.isSome_some, Option.isSome_none, Bool.true_bne, Bool.false_bne]
      exact k
    · obtain ⟨i, hi, e⟩ := List.getElem_of_mem ht
      rw [List.length_zip, List.length_drop] at hi
      rw [List.getElem_zip, List.getElem_drop] at e
      rw [← e]
      exact (List.pairwise_iff_getElem.mp ok.asc) i (1 + i) (by omega) (by omega) (by omega)
theorem sky_u2 {F : DEnds} {x : Addr} {s : Sk} {G : DHp} (k : F.nx (stSk x s) G) : U_Sky___init___2 F (stSk x s) G := by
  simp only [U_Sky___init___2, stSk, e4, isi_tup_tup, dSeq, dIfS, dTest, dOp, dName, dC, dRet, dLstF, dCons, dNil, dTup, dNext, dAsg, dLstM, gdName, dDrop, dM, dM0, dIf, dAnd, dOr, dNot, dAndV, dOrV, dNotV, dChain, dFz, dRetF, dRetN, dBreak, dCont, dCB, gdTup, gdCons, gdNil, gdSub, dNeg, dAug, dAugS, dFrz, dPar, dNoPart, dPart, dSlice, dYes, wipeD, i2, d1, d2, d3, startD, List.map_cons, List.map_nil, List.length_cons, List.length_nil, List.cons_append, List.nil_append, List.append_nil, List.getElem?_cons_zero, List.getElem?_cons_succ, List.getElem?_nil, List.replicate, List.set_cons_succ, List.set_cons_zero, Nat.reduceAdd, Nat.reduceSub, Nat.reduceLeDiff, run_eqi, run_nei, run_lt, run_le, run_gt, run_ge, run_addi, run_iaddi, true_and, and_true, Bool.not_eq_true, Bool.not_true, Bool.not_false, if_true, if_false, Bool.false_eq_true, ite_true, ite_false, reduceIte, reduceCtorEq, decide_eq_true_eq, decide_eq_false_iff_not, Option.isSome_some, Option.isSome_none, Bool.true_bne, Bool.false_bne]
  rw [len4]
  simp only [dSeq, dIfS, dTest, dOp, dName, dC, dRet, dLstF, dCons, dNil, dTup, dNext, dAsg, dLstM, gdName, dDrop, dM, dM0, dIf, dAnd, dOr, dNot, dAndV, dOrV, dNotV, dChain, dFz, dRetF, dRetN, dBreak, dCont, dCB, gdTup, gdCons, gdNil, gdSub, dNeg, dAug, dAugS, dFrz, dPar, dNoPart, dPart, dSlice, dYes, wipeD, i2, d1, d2, d3, startD, List.map_cons, List.map_nil, List.length_cons, List.length_nil, List.cons_append, List.nil_append, List.append_nil, List.getElem?_cons_zero, List.getElem?_cons_succ, List.getElem?_nil, List.replicate, List.set_cons_succ, List.set_cons_zero, Nat.reduceAdd, Nat.reduceSub, Nat.reduceLeDiff, run_eqi, run_nei, run_lt, run_le, run_gt, run_ge, run_addi, run_iaddi, true_and, and_true, Bool.not_eq_true, Bool.not_true, Bool.not_false, if_true, if_false, Bool.false_eq_true, ite_true, ite_false, reduceIte, reduceCtorEq, decide_eq_true_eq, decide_eq_false_iff_not, Option.isSome_some, Option.isSome_none, Bool.true_bne, Bool.false_bne]
  rw [if_neg (by decide)]
  exact k
theorem sky_u3 {F : DEnds} {x : Addr} {s : Sk} {G : DHp} (ok : OkSI s.tu s.ar) (k : F.nx (stSk x s) G) : U_Sky___init___3 F (stSk x s) G := by
  simp only [U_Sky___init___3, stSk, dSeq, dIfS, dTest, dOp, dName, dC, dRet, dLstF, dCons, dNil, dTup, dNext, dAsg, dLstM, gdName, dDrop, dM, dM0, dIf, dAnd, dOr, dNot, dAndV, dOrV, dNotV, dChain, dFz, dRetF, dRetN, dBreak, dCont, dCB, gdTup, gdCons, gdNil, gdSub, dNeg, dAug, dAugS, dFrz, dPar, dNoPart, dPart, dSlice, dYes, wipeD, i2, d1, d2, d3, startD, List.map_cons, List.map_nil, List.length_cons, List.length_nil, List.cons_append, List.nil_append, List.append_nil, List.getElem?_cons_zero, List.getElem?_cons_succ, List.getElem?_nil, List.replicate, List.set_cons_succ, List.set_cons_zero, Nat.reduceAdd, Nat.reduceSub, Nat.reduceLeDiff, run_eqi, run_nei, run_lt, run_le, run_gt, run_ge, run_addi, run_iaddi, true_and, and_true, Bool.not_eq_true, Bool.not_true, Bool.not_false, if_true, if_false, Bool.false_eq_true, ite_true, ite_false, reduceIte, reduceCtorEq, decide_eq_true_eq, decide_eq_false_iff_not, Option.isSome_some, Option.isSome_none, Bool.true_bne, Bool.false_bne]
  have a1 := ok.a1
  have a2 := ok.a2
  refine lc_map (xs := [s.ar.1, s.ar.2.1, s.ar.2.2.1, s.ar.2.2.2]) (f := .int) (fun t : Int => .bl (decide (0 - 1000000 ≤ t ∧ t ≤ 1000000))) (show 4 ≤ 1000000 by omega) (fun R r => by simp only [diSeq, e4, dSeq, dIfS, dTest, dOp, dName, dC, dRet, dLstF, dCons, dNil, dTup, dNext, dAsg, dLstM, gdName, dDrop, dM, dM0, dIf, dAnd, dOr, dNot, dAndV, dOrV, dNotV, dChain, dFz, dRetF, dRetN, dBreak, dCont, dCB, gdTup, gdCons, gdNil, gdSub, dNeg, dAug, dAugS, dFrz, dPar, dNoPart, dPart, dSlice, dYes, wipeD, i2, d1, d2, d3, startD, List.map_cons, List.map_nil, List.length_cons, List.length_nil, List.cons_append, List.nil_append, List.append_nil, List.getElem?_cons_zero, List.getElem?_cons_succ, List.getElem?_nil, List.replicate, List.set_cons_succ, List.set_cons_zero, Nat.reduceAdd, Nat.reduceSub, Nat.reduceLeDiff, run_eqi, run_nei, run_lt, run_le, run_gt, run_ge, run_addi, run_iaddi, true_and, and_true, Bool.not_eq_true, Bool.not_true, Bool.not_false, if_true, if_false, Bool.false_eq_true, ite_true, ite_false, reduceIte, reduceCtorEq, decide_eq_true_eq, decide_eq_false_iff_not, Option.isSome_some, Option.isSome_none, Bool.true_bne, Bool.false_bne]; exact r) (fun t ht G1 A a => ?_) fun p hp => ?_
  · simp only [dSeq, dIfS, dTest, dOp, dName, dC, dRet, dLstF, dCons, dNil, dTup, dNext, dAsg, dLstM, gdName, dDrop, dM, dM0, dIf, dAnd, dOr, dNot, dAndV, dOrV, dNotV, dChain, dFz, dRetF, dRetN, dBreak, dCont, dCB, gdTup, gdCons, gdNil, gdSub, dNeg, dAug, dAugS, dFrz, dPar, dNoPart, dPart, dSlice, dYes, wipeD, i2, d1, d2, d3, startD, List.map_cons, List.map_nil, List.length_cons, List.length_nil, List.cons_append, List.nil_append, List.append_nil, List.getElem?_cons_zero, List.getElem?_cons_succ, List.getElem?_nil, List.replicate, List.set_cons_succ, List.set_cons_zero, Nat.reduceAdd, Nat.reduceSub, Nat.reduceLeDiff, run_eqi, run_nei, run_lt, run_le, run_gt, run_ge, run_addi, run_iaddi, true_and, and_true, Bool.not_eq_true, Bool.not_true, Bool.not_false, if_true, if_false, Bool.false_eq_true, ite_true, ite_false, reduceIte, reduceCtorEq, decide_eq_true_eq, decide_eq_false_iff_not, Option.isSome_some, Option.isSome_none, Bool.true_bne, Bool.false_bne]
    exact ⟨_, _, _, rfl, rfl, rfl, a⟩
  · simp only [up_same, dl_up hp, DO.tree, dSeq, dIfS, dTest, dOp, dName, dC, dRet, dLstF, dCons, dNil, dTup, dNext, dAsg, dLstM, gdName, dDrop, dM, dM0, dIf, dAnd, dOr, dNot, dAndV, dOrV, dNotV, dChain, dFz, dRetF, dRetN, dBreak, dCont, dCB, gdTup, gdCons, gdNil, gdSub, dNeg, dAug, dAugS, dFrz, dPar, dNoPart, dPart, dSlice, dYes, wipeD, i2, d1, d2, d3, startD, List.map_cons, List.map_nil, List.length_cons, List.length_nil, List.cons_append, List.nil_append, List.append_nil, List.getElem?_cons_zero, List.getElem?_cons_succ, List.getElem?_nil, List.replicate, List.set_cons_succ, List.set_cons_zero, Nat.reduceAdd, Nat.reduceSub, Nat.reduceLeDiff, run_eqi, run_nei, run_lt, run_le, run_gt, run_ge, run_addi, run_iaddi, true_and, and_true, Bool.not_eq_true, Bool.not_true, Bool.not_false, if_true, if_false, Bool.false_eq_true, ite_true, ite_false, reduceIte, reduceCtorEq, decide_eq_true_eq, decide_eq_false_iff_not, Option.isSome_some, Option.isSome_none, Bool.true_bne, Bool.false_bne]
    refine run_all (xs := [s.ar.1, s.ar.2.1, s.ar.2.2.1, s.ar.2.2.2]) (b := fun t : Int => decide (0 - 1000000 ≤ t ∧ t ≤ 1000000)) ?_
    rw [List.all_eq_true.mpr fun t ht => decide_eq_true ?_]
    · simp only [dSeq, dIfS, dTest, dOp, dName, dC, dRet, dLstF, dCons, dNil, dTup, dNext, dAsg, dLstM, gdName, dDrop, dM, dM0, dIf, dAnd, dOr, dNot, dAndV, dOrV, dNotV, dChain, dFz, dRetF, dRetN, dBreak, dCont, dCB, gdTup, gdCons, gdNil, gdSub, dNeg, dAug, dAugS, dFrz, dPar, dNoPart, dPart, dSlice, dYes, wipeD, i2, d1, d2, d3, startD, List.map_cons, List.map_nil, List.length_cons, List.length_nil, List.cons_append, List.nil_append, List.append_nil, List.getElem?_cons_zero, List.getElem?_cons_succ, List.getElem?_nil, List.replicate, List.set_cons_succ, List.set_cons_zero, Nat.reduceAdd, Nat.reduceSub, Nat.reduceLeDiff, run_eqi, run_nei, run_lt, run_le, run_gt, run_ge, run_addi, run_iaddi, true_and, and_true, Bool.not_eq_true, Bool.not_true, Bool.not_false, if_true, if_false, Bool.false_eq_true, ite_true, ite_false, reduceIte, reduceCtorEq, decide_eq_true_eq, decide_eq_false_iff_not, Option.isSome_some, Option.isSome_none, Bool.true_bne, Bool.false_bne]
      exact k
    · simp only [List.mem_cons, List.not_mem_nil, or_false] at ht
      rcases ht with rfl | rfl | rfl | rfl <;> omega
theorem sky_u4 {F : DEnds} {x : Addr} {s : Sk} {G : DHp} (ok : OkSI s.tu s.ar) (k : F.nx (stSk x s) G) : U_Sky___init___4 F (stSk x s) G := by
  simp only [U_Sky___init___4, stSk, dSeq, dIfS, dTest, dOp, dName, dC, dRet, dLstF, dCons, dNil, dTup, dNext, dAsg, dLstM, gdName, dDrop, dM, dM0, dIf, dAnd, dOr, dNot, dAndV, dOrV, dNotV, dChain, dFz, dRetF, dRetN, dBreak, dCont, dCB, gdTup, gdCons, gdNil, gdSub, dNeg, dAug, dAugS, dFrz, dPar, dNoPart, dPart, dSlice, dYes, wipeD, i2, d1, d2, d3, startD, List.map_cons, List.map_nil, List.length_cons, List.length_nil, List.cons_append, List.nil_append, List.append_nil, List.getElem?_cons_zero, List.getElem?_cons_succ, List.getElem?_nil, List.replicate, List.set_cons_succ, List.set_cons_zero, Nat.reduceAdd, Nat.reduceSub, Nat.reduceLeDiff, run_eqi, run_nei, run_lt, run_le, run_gt, run_ge, run_addi, run_iaddi, true_and, and_true, Bool.not_eq_true, Bool.not_true, Bool.not_false, if_true, if_false, Bool.false_eq_true, ite_true, ite_false, reduceIte, reduceCtorEq, decide_eq_true_eq, decide_eq_false_iff_not, Option.isSome_some, Option.isSome_none, Bool.true_bne, Bool.false_bne]
  have a1 := ok.a1
  have a2 := ok.a2
  refine run_ar (by decide) rfl (run_ar (by decide) rfl ?_)
  simp only [dSeq, dIfS, dTest, dOp, dName, dC, dRet, dLstF, dCons, dNil, dTup, dNext, dAsg, dLstM, gdName, dDrop, dM, dM0, dIf, dAnd, dOr, dNot, dAndV, dOrV, dNotV, dChain, dFz, dRetF, dRetN, dBreak, dCont, dCB, gdTup, gdCons, gdNil, gdSub, dNeg, dAug, dAugS, dFrz, dPar, dNoPart, dPart, dSlice, dYes, wipeD, i2, d1, d2, d3, startD, List.map_cons, List.map_nil, List.length_cons, List.length_nil, List.cons_append, List.nil_append, List.append_nil, List.getElem?_cons_zero, List.getElem?_cons_succ, List.getElem?_nil, List.replicate, List.set_cons_succ, List.set_cons_zero, Nat.reduceAdd, Nat.reduceSub, Nat.reduceLeDiff, run_eqi, run_nei, run_lt, run_le, run_gt, run_ge, run_addi, run_iaddi, true_and, and_true, Bool.not_eq_true, Bool.not_true, Bool.not_false, if_true, if_false, Bool.false_eq_true, ite_true, ite_false, reduceIte, reduceCtorEq, decide_eq_true_eq, decide_eq_false_iff_not, Option.isSome_some, Option.isSome_none, Bool.true_bne, Bool.false_bne]
  rw [if_neg (by omega)]
  refine run_ar (by decide) rfl (run_ar (by decide) rfl ?_)
  simp only [dSeq, dIfS, dTest, dOp, dName, dC, dRet, dLstF, dCons, dNil, dTup, dNext, dAsg, dLstM, gdName, dDrop, dM, dM0, dIf, dAnd, dOr, dNot, dAndV, dOrV, dNotV, dChain, dFz, dRetF, dRetN, dBreak, dCont, dCB, gdTup, gdCons, gdNil, gdSub, dNeg, dAug, dAugS, dFrz, dPar, dNoPart, dPart, dSlice, dYes, wipeD, i2, d1, d2, d3, startD, List.map_cons, List.map_nil, List.length_cons, List.length_nil, List.cons_append, List.nil_append, List.append_nil, List.getElem?_cons_zero, List.getElem?_cons_succ, List.getElem?_nil, List.replicate, List.set_cons_succ, List.set_cons_zero, Nat.reduceAdd, Nat.reduceSub, Nat.reduceLeDiff, run_eqi, run_nei, run_lt, run_le, run_gt, run_ge, run_addi, run_iaddi, true_and, and_true, Bool.not_eq_true, Bool.not_true, Bool.not_false, if_true, if_false, Bool.false_eq_true, ite_true, ite_false, reduceIte, reduceCtorEq, decide_eq_true_eq, decide_eq_false_iff_not, Option.isSome_some, Option.isSome_none, Bool.true_bne, Bool.false_bne]
  rw [if_neg (by omega)]
  exact k
theorem sky_u5 {F : DEnds} {x : Addr} {s : Sk} {G : DHp} (ok : OkSI s.tu s.ar) (k : F.nx (stSk x s) G) : U_Sky___init___5 F (stSk x s) G := by
  simp only [U_Sky___init___5, stSk, run_len_eT, dSeq, dIfS, dTest, dOp, dName, dC, dRet, dLstF, dCons, dNil, dTup, dNext, dAsg, dLstM, gdName, dDrop, dM, dM0, dIf, dAnd, dOr, dNot, dAndV, dOrV, dNotV, dChain, dFz, dRetF, dRetN, dBreak, dCont, dCB, gdTup, gdCons, gdNil, gdSub, dNeg, dAug, dAugS, dFrz, dPar, dNoPart, dPart, dSlice, dYes, wipeD, i2, d1, d2, d3, startD, List.map_cons, List.map_nil, List.length_cons, List.length_nil, List.cons_append, List.nil_append, List.append_nil, List.getElem?_cons_zero, List.getElem?_cons_succ, List.getElem?_nil, List.replicate, List.set_cons_succ, List.set_cons_zero, Nat.reduceAdd, Nat.reduceSub, Nat.reduceLeDiff, run_eqi, run_nei, run_lt, run_le, run_gt, run_ge, run_addi, run_iaddi, true_and, and_true, Bool.not_eq_true, Bool.not_true, Bool.not_false, if_true, if_false, Bool.false_eq_true, ite_true, ite_false, reduceIte, reduceCtorEq, decide_eq_true_eq, decide_eq_false_iff_not, Option.isSome_some, Option.isSome_none, Bool.true_bne, Bool.false_bne]
  have a1 := ok.a1
  have a2 := ok.a2
  have tl := ok.tl
  refine run_ar (by decide) rfl (run_ar (by decide) rfl ?_)
  simp only [dSeq, dIfS, dTest, dOp, dName, dC, dRet, dLstF, dCons, dNil, dTup, dNext, dAsg, dLstM, gdName, dDrop, dM, dM0, dIf, dAnd, dOr, dNot, dAndV, dOrV, dNotV, dChain, dFz, dRetF, dRetN, dBreak, dCont, dCB, gdTup, gdCons, gdNil, gdSub, dNeg, dAug, dAugS, dFrz, dPar, dNoPart, dPart, dSlice, dYes, wipeD, i2, d1, d2, d3, startD, List.map_cons, List.map_nil, List.length_cons, List.length_nil, List.cons_append, List.nil_append, List.append_nil, List.getElem?_cons_zero, List.getElem?_cons_succ, List.getElem?_nil, List.replicate, List.set_cons_succ, List.set_cons_zero, Nat.reduceAdd, Nat.reduceSub, Nat.reduceLeDiff, run_eqi, run_nei, run_lt, run_le, run_gt, run_ge, run_addi, run_iaddi, true_and, and_true, Bool.not_eq_true, Bool.not_true, Bool.not_false, if_true, if_false, Bool.false_eq_true, ite_true, ite_false, reduceIte, reduceCtorEq, decide_eq_true_eq, decide_eq_false_iff_not, Option.isSome_some, Option.isSome_none, Bool.true_bne, Bool.false_bne]
  refine ⟨mul_small (by omega), ?_⟩
  refine run_ar (by decide) rfl (run_ar (by decide) rfl ?_)
  simp only [dSeq, dIfS, dTest, dOp, dName, dC, dRet, dLstF, dCons, dNil, dTup, dNext, dAsg, dLstM, gdName, dDrop, dM, dM0, dIf, dAnd, dOr, dNot, dAndV, dOrV, dNotV, dChain, dFz, dRetF, dRetN, dBreak, dCont, dCB, gdTup, gdCons, gdNil, gdSub, dNeg, dAug, dAugS, dFrz, dPar, dNoPart, dPart, dSlice, dYes, wipeD, i2, d1, d2, d3, startD, List.map_cons, List.map_nil, List.length_cons, List.length_nil, List.cons_append, List.nil_append, List.append_nil, List.getElem?_cons_zero, List.getElem?_cons_succ, List.getElem?_nil, List.replicate, List.set_cons_succ, List.set_cons_zero, Nat.reduceAdd, Nat.reduceSub, Nat.reduceLeDiff, run_eqi, run_nei, run_lt, run_le, run_gt, run_ge, run_addi, run_iaddi, true_and, and_true, Bool.not_eq_true, Bool.not_true, Bool.not_false, if_true, if_false, Bool.false_eq_true, ite_true, ite_false, reduceIte, reduceCtorEq, decide_eq_true_eq, decide_eq_false_iff_not, Option.isSome_some, Option.isSome_none, Bool.true_bne, Bool.false_bne]
  refine ⟨?_, ?_⟩
  · exact .inr ⟨by omega, by omega⟩
  · have := ok.few
    rw [if_neg (by omega)]
    exact k
theorem run_Sky___init__ : ∀ ds G Q, sp_Sky___init__ ds G Q → T_Sky___init__ { nx := fun _ G' => Q .non G', rt := Q } (startD N_Sky___init__ ds) G := fun ds G Q h => by
  obtain ⟨x, s, rfl, hG, ok, q⟩ := h
  refine sky_u0 ok ?_
  dsimp only [T_Sky___init___1, dSeq]
  refine sky_u1 ok ?_
  dsimp only [T_Sky___init___2, dSeq]
  refine sky_u2 ?_
  dsimp only [T_Sky___init___3, dSeq]
  refine sky_u3 ok ?_
  dsimp only [T_Sky___init___4, dSeq]
  refine sky_u4 ok ?_
  dsimp only [T_Sky___init___5, dSeq]
  refine sky_u5 ok ?_
  dsimp only [T_Sky___init___6, U_Sky___init___6, dSeq]
  refine run_fn (fs' := [("ground", gD s.cs)]) (fun R r => r) (fun R r => r) hG (by decide) rfl ?_
  dsimp only [T_Sky___init___7, U_Sky___init___7, dSeq]
  refine run_fn (fs' := [("ground", gD s.cs), ("camera", cD s.cam)]) (fun R r => r) (fun R r => r) up_same (by show _ < 1000; simp) rfl ?_
  rw [up_up]
  dsimp only [T_Sky___init___8, U_Sky___init___8, dSeq]
  refine run_fn (fs' := [("ground", gD s.cs), ("camera", cD s.cam), ("turns", eT .int s.tu)]) (fun R r => r) (fun R r => r) up_same (by show _ < 1000; simp) rfl ?_
  rw [up_up]
  dsimp only [T_Sky___init___9, U_Sky___init___9, dSeq]
  refine run_fn (fs' := [("ground", gD s.cs), ("camera", cD s.cam), ("turns", eT .int s.tu), ("area", e4 s.ar)]) (fun R r => r) (fun R r => r) up_same (by show _ < 1000; simp) rfl ?_
  rw [up_up]
  exact q
/-! ### draws -/
def sp__law_pick : DRn := fun l G Q => ∃ (a : Addr) (ns : List Int) (c : Int) (G0 : DHp) (it : D) (ds : List D), l = [.ref a, it] ∧ G = Gw G0 a ns c ∧ ns.length ≤ 63 ∧ (it = .nd .lst ds ∨ it = .nd .tup ds) ∧ 0 < ds.length ∧ ∀ d ∈ ds, Q d (Gw G0 a ns (c + 1))
abbrev N__law_pick : List Str := ["draw", "items"]
def T__law_pick : DTS :=
    (dRet (dOp dIx (dName 1) (dCB sp__law_take (dCons (dName 0) (dCons (dCB dLen (dCons (dName 1) dNil)) dNil)))))
theorem len__law_pick : ∀ ds G Q, sp__law_pick ds G Q → ds.length = 2 := fun ds G Q ⟨_, _, _, _, _, _, e, _⟩ => by rw [e]; rfl
theorem run_ixT' {it : D} {ds : List D} {i : Int} {d : D} {G : DHp} {Q : DVK} (hi : it = .nd .lst ds ∨ it = .nd .tup ds) (h0 : 0 ≤ i) (e : ds[i.toNat]? = some d) (q : Q d G) : dIx it (.int i) G Q := by
  rcases hi with rfl | rfl
  · exact atD_get h0 e q
  · exact atD_get h0 e q
theorem run__law_pick : ∀ ds G Q, sp__law_pick ds G Q → T__law_pick { nx := fun _ G' => Q .non G', rt := Q } (startD N__law_pick ds) G := fun l G Q h => by
  obtain ⟨a, ns, c, G0, it, ds, rfl, rfl, hl, hi, hd, q⟩ := h
  simp only [T__law_pick, N__law_pick, dSeq, dIfS, dTest, dOp, dName, dC, dRet, dLstF, dCons, dNil, dTup, dNext, dAsg, dLstM, gdName, dDrop, dM, dM0, dIf, dAnd, dOr, dNot, dAndV, dOrV, dNotV, dChain, dFz, dRetF, dRetN, dBreak, dCont, dCB, gdTup, gdCons, gdNil, gdSub, dNeg, dAug, dAugS, dFrz, dPar, dNoPart, dPart, dSlice, dYes, wipeD, i2, d1, d2, d3, startD, List.map_cons, List.map_nil, List.length_cons, List.length_nil, List.cons_append, List.nil_append, List.append_nil, List.getElem?_cons_zero, List.getElem?_cons_succ, List.getElem?_nil, List.replicate, List.set_cons_succ, List.set_cons_zero, Nat.reduceAdd, Nat.reduceSub, Nat.reduceLeDiff, run_eqi, run_nei, run_lt, run_le, run_gt, run_ge, run_addi, run_iaddi, true_and, and_true, Bool.not_eq_true, Bool.not_true, Bool.not_false, if_true, if_false, Bool.false_eq_true, ite_true, ite_false, reduceIte, reduceCtorEq, decide_eq_true_eq, decide_eq_false_iff_not, Option.isSome_some, Option.isSome_none, Bool.true_bne, Bool.false_bne]
  rw [run_len (ds := ds) (by rcases hi with rfl | rfl <;> rfl)]
  refine gw_take (by omega) hl fun r h0 h1 => ?_
  have hr : ds[r.toNat]? = some ds[r.toNat] := List.getElem?_eq_getElem (by omega)
  exact run_ixT' hi h0 hr (q _ (List.mem_of_getElem? hr))
/-- a drawn ground -/
structure GrD (most side : Int) (cs : List Pt) : Prop where
  len : (cs.length : Int) ≤ most
  bd : ∀ p ∈ cs, (-1 ≤ p.1 ∧ p.1 ≤ side - 2) ∧ (-1 ≤ p.2.1 ∧ p.2.1 ≤ side - 2) ∧ 1 ≤ p.2.2 ∧ p.2.2 ≤ 2
  nd : cs.Nodup
  srt : srtT e3 cs = cs
def sp__law_ground : DRn := fun l G Q => ∃ (a : Addr) (ns : List Int) (c : Int) (G0 : DHp) (most side : Int), l = [.ref a, .int most, .int side] ∧ G = Gw G0 a ns c ∧ ns.length ≤ 63 ∧ (0 ≤ most ∧ most ≤ 90) ∧ (1 ≤ side ∧ side ≤ 1000) ∧ ∀ cs c', GrD most side cs → Q (gD cs) (Gw G0 a ns c')
abbrev N__law_ground : List Str := ["draw", "most", "side", "found", "turn", "crater"]
def T__law_ground : DTS :=
    (dSeq (dAsg (dLstM dNil) (gdName 3))
    (dSeq (dFor (diRange1 (dCons (dCB sp__law_take (dCons (dName 0) (dCons (dOp dAdd (dName 1) (dC (.int 1))) dNil))) dNil)) (gdName 4)
    (dSeq (dAsg (dTup (dCons (dOp dSub (dCB sp__law_take (dCons (dName 0) (dCons (dName 2) dNil))) (dC (.int 1))) (dCons (dOp dSub (dCB sp__law_take (dCons (dName 0) (dCons (dName 2) dNil))) (dC (.int 1))) (dCons (dOp dAdd (dC (.int 1)) (dCB sp__law_take (dCons (dName 0) (dCons (dC (.int 2)) dNil)))) dNil)))) (gdName 5))
    (dIfS (dTest (dOp (dIn true) (dName 5) (dName 3)))
    (dDrop (dM "list" dAppend (dName 3) (dCons (dName 5) dNil)))
    dNext)))
    (dFrz 3 (dRet (dFz (dMake CA.Ground sp_Ground___init__ (dCons (dName 3) dNil)))))))
theorem len__law_ground : ∀ ds G Q, sp__law_ground ds G Q → ds.length = 3 := fun ds G Q ⟨_, _, _, _, _, _, e, _⟩ => by rw [e]; rfl
theorem gi3 (a b : Pt) (e : ([a.1, a.2.1, a.2.2] : List Int) = [b.1, b.2.1, b.2.2]) : a = b := by
  simp at e; exact Prod.ext e.1 (Prod.ext e.2.1 e.2.2)
theorem srt3_idem (cs : List Pt) : srtT e3 (srtT e3 cs) = srtT e3 cs := srtT_eq (g := fun a : Pt => [a.1, a.2.1, a.2.2]) (fun a b => le_e3 a b) gi3 (srtT_perm e3 cs)
theorem run__law_ground : ∀ ds G Q, sp__law_ground ds G Q → T__law_ground { nx := fun _ G' => Q .non G', rt := Q } (startD N__law_ground ds) G := fun l G Q h => by
  obtain ⟨a, ns, c, G0, most, side, rfl, rfl, hl, hm, hs, q⟩ := h
  simp only [T__law_ground, N__law_ground, dSeq, dIfS, dTest, dOp, dName, dC, dRet, dLstF, dCons, dNil, dTup, dNext, dAsg, dLstM, gdName, dDrop, dM, dM0, dIf, dAnd, dOr, dNot, dAndV, dOrV, dNotV, dChain, dFz, dRetF, dRetN, dBreak, dCont, dCB, gdTup, gdCons, gdNil, gdSub, dNeg, dAug, dAugS, dFrz, dPar, dNoPart, dPart, dSlice, dYes, wipeD, i2, d1, d2, d3, startD, List.map_cons, List.map_nil, List.length_cons, List.length_nil, List.cons_append, List.nil_append, List.append_nil, List.getElem?_cons_zero, List.getElem?_cons_succ, List.getElem?_nil, List.replicate, List.set_cons_succ, List.set_cons_zero, Nat.reduceAdd, Nat.reduceSub, Nat.reduceLeDiff, run_eqi, run_nei, run_lt, run_le, run_gt, run_ge, run_addi, run_iaddi, true_and, and_true, Bool.not_eq_true, Bool.not_true, Bool.not_false, if_true, if_false, Bool.false_eq_true, ite_true, ite_false, reduceIte, reduceCtorEq, decide_eq_true_eq, decide_eq_false_iff_not, Option.isSome_some, Option.isSome_none, Bool.true_bne, Bool.false_bne]
  intro p hp
  obtain ⟨e, hap⟩ := gw_new (o := .lst []) hp
  have hgp := gw_none hap hp
  rw [e]
  simp only [dFor, diRange1, dSeq, dIfS, dTest, dOp, dName, dC, dRet, dLstF, dCons, dNil, dTup, dNext, dAsg, dLstM, gdName, dDrop, dM, dM0, dIf, dAnd, dOr, dNot, dAndV, dOrV, dNotV, dChain, dFz, dRetF, dRetN, dBreak, dCont, dCB, gdTup, gdCons, gdNil, gdSub, dNeg, dAug, dAugS, dFrz, dPar, dNoPart, dPart, dSlice, dYes, wipeD, i2, d1, d2, d3, startD, List.map_cons, List.map_nil, List.length_cons, List.length_nil, List.cons_append, List.nil_append, List.append_nil, List.getElem?_cons_zero, List.getElem?_cons_succ, List.getElem?_nil, List.replicate, List.set_cons_succ, List.set_cons_zero, Nat.reduceAdd, Nat.reduceSub, Nat.reduceLeDiff, run_eqi, run_nei, run_lt, run_le, run_gt, run_ge, run_addi, run_iaddi, true_and, and_true, Bool.not_eq_true, Bool.not_true, Bool.not_false, if_true, if_false, Bool.false_eq_true, ite_true, ite_false, reduceIte, reduceCtorEq, decide_eq_true_eq, decide_eq_false_iff_not, Option.isSome_some, Option.isSome_none, Bool.true_bne, Bool.false_bne]
  refine gw_take (by omega) hl fun n n0 n1 => ⟨⟨by omega, by omega⟩, ?_⟩
  refine ⟨fun i η G' => ∃ o1 o2 cs c', η = [some (.ref a), some (.int most), some (.int side), some (.ref p), o1, o2] ∧ G' = Gw (up G0 p (.lst (cs.map e3))) a ns c' ∧ cs.length ≤ i ∧ cs.Nodup ∧ ∀ p ∈ cs, (-1 ≤ p.1 ∧ p.1 ≤ side - 2) ∧ (-1 ≤ p.2.1 ∧ p.2.1 ≤ side - 2) ∧ 1 ≤ p.2.2 ∧ p.2.2 ≤ 2, ⟨none, none, [], _, rfl, rfl, Nat.le_refl _, List.nodup_nil, by simp⟩, fun _ _ _ _ => trivial, ?_, ?_⟩
  · rintro i d η G' hd ⟨o1, o2, cs, c', rfl, rfl, hc, nd, bd⟩
    obtain ⟨z, hz, rfl⟩ := get_map hd
    have hi := (List.getElem?_eq_some_iff.mp hz).1
    rw [len_range] at hi
    simp only [dSeq, dIfS, dTest, dOp, dName, dC, dRet, dLstF, dCons, dNil, dTup, dNext, dAsg, dLstM, gdName, dDrop, dM, dM0, dIf, dAnd, dOr, dNot, dAndV, dOrV, dNotV, dChain, dFz, dRetF, dRetN, dBreak, dCont, dCB, gdTup, gdCons, gdNil, gdSub, dNeg, dAug, dAugS, dFrz, dPar, dNoPart, dPart, dSlice, dYes, wipeD, i2, d1, d2, d3, startD, List.map_cons, List.map_nil, List.length_cons, List.length_nil, List.cons_append, List.nil_append, List.append_nil, List.getElem?_cons_zero, List.getElem?_cons_succ, List.getElem?_nil, List.replicate, List.set_cons_succ, List.set_cons_zero, Nat.reduceAdd, Nat.reduceSub, Nat.reduceLeDiff, run_eqi, run_nei, run_lt, run_le, run_gt, run_ge, run_addi, run_iaddi, true_and, and_true, Bool.not_eq_true, Bool.not_true, Bool.not_false, if_true, if_false, Bool.false_eq_true, ite_true, ite_false, reduceIte, reduceCtorEq, decide_eq_true_eq, decide_eq_false_iff_not, Option.isSome_some, Option.isSome_none, Bool.true_bne, Bool.false_bne]
    refine gw_take (by omega) hl fun x x0 x1 => ?_
    simp only [dSeq, dIfS, dTest, dOp, dName, dC, dRet, dLstF, dCons, dNil, dTup, dNext, dAsg, dLstM, gdName, dDrop, dM, dM0, dIf, dAnd, dOr, dNot, dAndV, dOrV, dNotV, dChain, dFz, dRetF, dRetN, dBreak, dCont, dCB, gdTup, gdCons, gdNil, gdSub, dNeg, dAug, dAugS, dFrz, dPar, dNoPart, dPart, dSlice, dYes, wipeD, i2, d1, d2, d3, startD, List.map_cons, List.map_nil, List.length_cons, List.length_nil, List.cons_append, List.nil_append, List.append_nil, List.getElem?_cons_zero, List.getElem?_cons_succ, List.getElem?_nil, List.replicate, List.set_cons_succ, List.set_cons_zero, Nat.reduceAdd, Nat.reduceSub, Nat.reduceLeDiff, run_eqi, run_nei, run_lt, run_le, run_gt, run_ge, run_addi, run_iaddi, true_and, and_true, Bool.not_eq_true, Bool.not_true, Bool.not_false, if_true, if_false, Bool.false_eq_true, ite_true, ite_false, reduceIte, reduceCtorEq, decide_eq_true_eq, decide_eq_false_iff_not, Option.isSome_some, Option.isSome_none, Bool.true_bne, Bool.false_bne]
    refine gw_take (by omega) hl fun y y0 y1 => ?_
    simp only [dSeq, dIfS, dTest, dOp, dName, dC, dRet, dLstF, dCons, dNil, dTup, dNext, dAsg, dLstM, gdName, dDrop, dM, dM0, dIf, dAnd, dOr, dNot, dAndV, dOrV, dNotV, dChain, dFz, dRetF, dRetN, dBreak, dCont, dCB, gdTup, gdCons, gdNil, gdSub, dNeg, dAug, dAugS, dFrz, dPar, dNoPart, dPart, dSlice, dYes, wipeD, i2, d1, d2, d3, startD, List.map_cons, List.map_nil, List.length_cons, List.length_nil, List.cons_append, List.nil_append, List.append_nil, List.getElem?_cons_zero, List.getElem?_cons_succ, List.getElem?_nil, List.replicate, List.set_cons_succ, List.set_cons_zero, Nat.reduceAdd, Nat.reduceSub, Nat.reduceLeDiff, run_eqi, run_nei, run_lt, run_le, run_gt, run_ge, run_addi, run_iaddi, true_and, and_true, Bool.not_eq_true, Bool.not_true, Bool.not_false, if_true, if_false, Bool.false_eq_true, ite_true, ite_false, reduceIte, reduceCtorEq, decide_eq_true_eq, decide_eq_false_iff_not, Option.isSome_some, Option.isSome_none, Bool.true_bne, Bool.false_bne]
    refine gw_take (by decide) hl fun w w0 w1 => ?_
    simp only [dSeq, dIfS, dTest, dOp, dName, dC, dRet, dLstF, dCons, dNil, dTup, dNext, dAsg, dLstM, gdName, dDrop, dM, dM0, dIf, dAnd, dOr, dNot, dAndV, dOrV, dNotV, dChain, dFz, dRetF, dRetN, dBreak, dCont, dCB, gdTup, gdCons, gdNil, gdSub, dNeg, dAug, dAugS, dFrz, dPar, dNoPart, dPart, dSlice, dYes, wipeD, i2, d1, d2, d3, startD, List.map_cons, List.map_nil, List.length_cons, List.length_nil, List.cons_append, List.nil_append, List.append_nil, List.getElem?_cons_zero, List.getElem?_cons_succ, List.getElem?_nil, List.replicate, List.set_cons_succ, List.set_cons_zero, Nat.reduceAdd, Nat.reduceSub, Nat.reduceLeDiff, run_eqi, run_nei, run_lt, run_le, run_gt, run_ge, run_addi, run_iaddi, true_and, and_true, Bool.not_eq_true, Bool.not_true, Bool.not_false, if_true, if_false, Bool.false_eq_true, ite_true, ite_false, reduceIte, reduceCtorEq, decide_eq_true_eq, decide_eq_false_iff_not, Option.isSome_some, Option.isSome_none, Bool.true_bne, Bool.false_bne]
    refine run_in (ds := cs.map e3) (.inl (der_lt (gw_at hap))) (clean_e3 (x - 1, y - 1, 1 + w)) (cleans_map clean_e3 _) (Nat.le_trans (depth_e3 (x - 1, y - 1, 1 + w)) (by decide)) (decide ((x - 1, y - 1, 1 + w) ∈ cs)) ?_ ?_
    · rw [decide_eq_true_eq]
      exact ⟨fun h => List.mem_map.mpr ⟨_, h, rfl⟩, fun h => by obtain ⟨u, hu, e⟩ := List.mem_map.mp h; have := (e3_inj (a := u) (b := (x - 1, y - 1, 1 + w))).mp e; rw [← this]; exact hu⟩
    · by_cases hin : (x - 1, y - 1, 1 + w) ∈ cs
      · rw [decide_eq_true hin]
        simp only [dSeq, dIfS, dTest, dOp, dName, dC, dRet, dLstF, dCons, dNil, dTup, dNext, dAsg, dLstM, gdName, dDrop, dM, dM0, dIf, dAnd, dOr, dNot, dAndV, dOrV, dNotV, dChain, dFz, dRetF, dRetN, dBreak, dCont, dCB, gdTup, gdCons, gdNil, gdSub, dNeg, dAug, dAugS, dFrz, dPar, dNoPart, dPart, dSlice, dYes, wipeD, i2, d1, d2, d3, startD, List.map_cons, List.map_nil, List.length_cons, List.length_nil, List.cons_append, List.nil_append, List.append_nil, List.getElem?_cons_zero, List.getElem?_cons_succ, List.getElem?_nil, List.replicate, List.set_cons_succ, List.set_cons_zero, Nat.reduceAdd, Nat.reduceSub, Nat.reduceLeDiff, run_eqi, run_nei, run_lt, run_le, run_gt, run_ge, run_addi, run_iaddi, true_and, and_true, Bool.not_eq_true, Bool.not_true, Bool.not_false, if_true, if_false, Bool.false_eq_true, ite_true, ite_false, reduceIte, reduceCtorEq, decide_eq_true_eq, decide_eq_false_iff_not, Option.isSome_some, Option.isSome_none, Bool.true_bne, Bool.false_bne]
        exact ⟨_, (by repeat (first | exact Le.nil | apply Le.keep | apply Le.drop)), _, _, cs, _, rfl, rfl, by omega, nd, bd⟩
      · rw [decide_eq_false hin]
        simp only [dSeq, dIfS, dTest, dOp, dName, dC, dRet, dLstF, dCons, dNil, dTup, dNext, dAsg, dLstM, gdName, dDrop, dM, dM0, dIf, dAnd, dOr, dNot, dAndV, dOrV, dNotV, dChain, dFz, dRetF, dRetN, dBreak, dCont, dCB, gdTup, gdCons, gdNil, gdSub, dNeg, dAug, dAugS, dFrz, dPar, dNoPart, dPart, dSlice, dYes, wipeD, i2, d1, d2, d3, startD, List.map_cons, List.map_nil, List.length_cons, List.length_nil, List.cons_append, List.nil_append, List.append_nil, List.getElem?_cons_zero, List.getElem?_cons_succ, List.getElem?_nil, List.replicate, List.set_cons_succ, List.set_cons_zero, Nat.reduceAdd, Nat.reduceSub, Nat.reduceLeDiff, run_eqi, run_nei, run_lt, run_le, run_gt, run_ge, run_addi, run_iaddi, true_and, and_true, Bool.not_eq_true, Bool.not_true, Bool.not_false, if_true, if_false, Bool.false_eq_true, ite_true, ite_false, reduceIte, reduceCtorEq, decide_eq_true_eq, decide_eq_false_iff_not, Option.isSome_some, Option.isSome_none, Bool.true_bne, Bool.false_bne]
        refine run_app (y := e3 (x - 1, y - 1, 1 + w)) (gw_at hap) (small_line (by rw [List.length_map]; omega)) ?_
        rw [gw_up hap]
        refine ⟨_, (by repeat (first | exact Le.nil | apply Le.keep | apply Le.drop)), _, _, cs ++ [(x - 1, y - 1, 1 + w)], _, rfl, by rw [List.map_append]; rfl, by rw [List.length_append, List.length_singleton]; omega, ?_, ?_⟩
        · rw [List.nodup_append]
          exact ⟨nd, by simp, fun u hu v hv => by rw [List.mem_singleton] at hv; subst hv; exact fun e => hin (e ▸ hu)⟩
        · intro u hu
          rcases List.mem_append.mp hu with hu | hu
          · exact bd u hu
          · rw [List.mem_singleton] at hu
            subst hu
            exact ⟨⟨by dsimp only; omega, by dsimp only; omega⟩, ⟨by dsimp only; omega, by dsimp only; omega⟩, by dsimp only; omega, by dsimp only; omega⟩
  · rintro η G' ⟨o1, o2, cs, c', rfl, rfl, hc, nd, bd⟩
    rw [List.length_map, len_range] at hc
    simp only [gw_at hap, gw_dl hap hgp, dMake, dSeq, dIfS, dTest, dOp, dName, dC, dRet, dLstF, dCons, dNil, dTup, dNext, dAsg, dLstM, gdName, dDrop, dM, dM0, dIf, dAnd, dOr, dNot, dAndV, dOrV, dNotV, dChain, dFz, dRetF, dRetN, dBreak, dCont, dCB, gdTup, gdCons, gdNil, gdSub, dNeg, dAug, dAugS, dFrz, dPar, dNoPart, dPart, dSlice, dYes, wipeD, i2, d1, d2, d3, startD, List.map_cons, List.map_nil, List.length_cons, List.length_nil, List.cons_append, List.nil_append, List.append_nil, List.getElem?_cons_zero, List.getElem?_cons_succ, List.getElem?_nil, List.replicate, List.set_cons_succ, List.set_cons_zero, Nat.reduceAdd, Nat.reduceSub, Nat.reduceLeDiff, run_eqi, run_nei, run_lt, run_le, run_gt, run_ge, run_addi, run_iaddi, true_and, and_true, Bool.not_eq_true, Bool.not_true, Bool.not_false, if_true, if_false, Bool.false_eq_true, ite_true, ite_false, reduceIte, reduceCtorEq, decide_eq_true_eq, decide_eq_false_iff_not, Option.isSome_some, Option.isSome_none, Bool.true_bne, Bool.false_bne]
    intro x hx
    refine ⟨x, cs, rfl, rfl, up_same, by omega, fun p hp => ?_, ?_⟩
    · obtain ⟨b1, b2, b3⟩ := bd p hp
      exact ⟨⟨by omega, by omega⟩, ⟨by omega, by omega⟩, by omega, by omega⟩
    · rw [up_up]
      refine ⟨rfl, ?_⟩
      simp only [up_same, dl_up hx, dSeq, dIfS, dTest, dOp, dName, dC, dRet, dLstF, dCons, dNil, dTup, dNext, dAsg, dLstM, gdName, dDrop, dM, dM0, dIf, dAnd, dOr, dNot, dAndV, dOrV, dNotV, dChain, dFz, dRetF, dRetN, dBreak, dCont, dCB, gdTup, gdCons, gdNil, gdSub, dNeg, dAug, dAugS, dFrz, dPar, dNoPart, dPart, dSlice, dYes, wipeD, i2, d1, d2, d3, startD, List.map_cons, List.map_nil, List.length_cons, List.length_nil, List.cons_append, List.nil_append, List.append_nil, List.getElem?_cons_zero, List.getElem?_cons_succ, List.getElem?_nil, List.replicate, List.set_cons_succ, List.set_cons_zero, Nat.reduceAdd, Nat.reduceSub, Nat.reduceLeDiff, run_eqi, run_nei, run_lt, run_le, run_gt, run_ge, run_addi, run_iaddi, true_and, and_true, Bool.not_eq_true, Bool.not_true, Bool.not_false, if_true, if_false, Bool.false_eq_true, ite_true, ite_false, reduceIte, reduceCtorEq, decide_eq_true_eq, decide_eq_false_iff_not, Option.isSome_some, Option.isSome_none, Bool.true_bne, Bool.false_bne]
      refine q (srtT e3 cs) c' ⟨by rw [(srtT_perm e3 cs).length_eq]; omega, fun p hp => bd p ((srtT_perm e3 cs).mem_iff.mp hp), (srtT_perm e3 cs).nodup_iff.mpr nd, srt3_idem cs⟩
def sp__law_camera : DRn := fun l G Q => ∃ (a : Addr) (ns : List Int) (c : Int) (G0 : DHp), l = [.ref a] ∧ G = Gw G0 a ns c ∧ ns.length ≤ 63 ∧ ∀ cam c', ((2 ≤ cam.w ∧ cam.w ≤ 4) ∧ (1 ≤ cam.h ∧ cam.h ≤ 3) ∧ (0 ≤ cam.er ∧ cam.er ≤ 1) ∧ (0 ≤ cam.fa ∧ cam.fa ≤ 1) ∧ (0 ≤ cam.lo ∧ cam.lo ≤ 1)) → Q (cD cam) (Gw G0 a ns c')
abbrev N__law_camera : List Str := ["draw"]
def T__law_camera : DTS :=
    (dRet (dFz (dMake CA.Camera sp_Camera___init__ (dCons (dOp dAdd (dC (.int 2)) (dCB sp__law_take (dCons (dName 0) (dCons (dC (.int 3)) dNil)))) (dCons (dOp dAdd (dC (.int 1)) (dCB sp__law_take (dCons (dName 0) (dCons (dC (.int 3)) dNil)))) (dCons (dCB sp__law_take (dCons (dName 0) (dCons (dC (.int 2)) dNil))) (dCons (dCB sp__law_take (dCons (dName 0) (dCons (dC (.int 2)) dNil))) (dCons (dCB sp__law_take (dCons (dName 0) (dCons (dC (.int 2)) dNil))) dNil))))))))
theorem len__law_camera : ∀ ds G Q, sp__law_camera ds G Q → ds.length = 1 := fun ds G Q ⟨_, _, _, _, e, _⟩ => by rw [e]; rfl
theorem run__law_camera : ∀ ds G Q, sp__law_camera ds G Q → T__law_camera { nx := fun _ G' => Q .non G', rt := Q } (startD N__law_camera ds) G := fun l G Q h => by
  obtain ⟨a, ns, c, G0, rfl, rfl, hl, q⟩ := h
  simp only [T__law_camera, N__law_camera, dMake, dSeq, dIfS, dTest, dOp, dName, dC, dRet, dLstF, dCons, dNil, dTup, dNext, dAsg, dLstM, gdName, dDrop, dM, dM0, dIf, dAnd, dOr, dNot, dAndV, dOrV, dNotV, dChain, dFz, dRetF, dRetN, dBreak, dCont, dCB, gdTup, gdCons, gdNil, gdSub, dNeg, dAug, dAugS, dFrz, dPar, dNoPart, dPart, dSlice, dYes, wipeD, i2, d1, d2, d3, startD, List.map_cons, List.map_nil, List.length_cons, List.length_nil, List.cons_append, List.nil_append, List.append_nil, List.getElem?_cons_zero, List.getElem?_cons_succ, List.getElem?_nil, List.replicate, List.set_cons_succ, List.set_cons_zero, Nat.reduceAdd, Nat.reduceSub, Nat.reduceLeDiff, run_eqi, run_nei, run_lt, run_le, run_gt, run_ge, run_addi, run_iaddi, true_and, and_true, Bool.not_eq_true, Bool.not_true, Bool.not_false, if_true, if_false, Bool.false_eq_true, ite_true, ite_false, reduceIte, reduceCtorEq, decide_eq_true_eq, decide_eq_false_iff_not, Option.isSome_some, Option.isSome_none, Bool.true_bne, Bool.false_bne]
  refine gw_take (by decide) hl fun w w0 w1 => ?_
  simp only [dSeq, dIfS, dTest, dOp, dName, dC, dRet, dLstF, dCons, dNil, dTup, dNext, dAsg, dLstM, gdName, dDrop, dM, dM0, dIf, dAnd, dOr, dNot, dAndV, dOrV, dNotV, dChain, dFz, dRetF, dRetN, dBreak, dCont, dCB, gdTup, gdCons, gdNil, gdSub, dNeg, dAug, dAugS, dFrz, dPar, dNoPart, dPart, dSlice, dYes, wipeD, i2, d1, d2, d3, startD, List.map_cons, List.map_nil, List.length_cons, List.length_nil, List.cons_append, List.nil_append, List.append_nil, List.getElem?_cons_zero, List.getElem?_cons_succ, List.getElem?_nil, List.replicate, List.set_cons_succ, List.set_cons_zero, Nat.reduceAdd, Nat.reduceSub, Nat.reduceLeDiff, run_eqi, run_nei, run_lt, run_le, run_gt, run_ge, run_addi, run_iaddi, true_and, and_true, Bool.not_eq_true, Bool.not_true, Bool.not_false, if_true, if_false, Bool.false_eq_true, ite_true, ite_false, reduceIte, reduceCtorEq, decide_eq_true_eq, decide_eq_false_iff_not, Option.isSome_some, Option.isSome_none, Bool.true_bne, Bool.false_bne]
  refine gw_take (by decide) hl fun h h0 h1 => ?_
  simp only [dSeq, dIfS, dTest, dOp, dName, dC, dRet, dLstF, dCons, dNil, dTup, dNext, dAsg, dLstM, gdName, dDrop, dM, dM0, dIf, dAnd, dOr, dNot, dAndV, dOrV, dNotV, dChain, dFz, dRetF, dRetN, dBreak, dCont, dCB, gdTup, gdCons, gdNil, gdSub, dNeg, dAug, dAugS, dFrz, dPar, dNoPart, dPart, dSlice, dYes, wipeD, i2, d1, d2, d3, startD, List.map_cons, List.map_nil, List.length_cons, List.length_nil, List.cons_append, List.nil_append, List.append_nil, List.getElem?_cons_zero, List.getElem?_cons_succ, List.getElem?_nil, List.replicate, List.set_cons_succ, List.set_cons_zero, Nat.reduceAdd, Nat.reduceSub, Nat.reduceLeDiff, run_eqi, run_nei, run_lt, run_le, run_gt, run_ge, run_addi, run_iaddi, true_and, and_true, Bool.not_eq_true, Bool.not_true, Bool.not_false, if_true, if_false, Bool.false_eq_true, ite_true, ite_false, reduceIte, reduceCtorEq, decide_eq_true_eq, decide_eq_false_iff_not, Option.isSome_some, Option.isSome_none, Bool.true_bne, Bool.false_bne]
  refine gw_take (by decide) hl fun er er0 er1 => ?_
  refine gw_take (by decide) hl fun fa fa0 fa1 => ?_
  refine gw_take (by decide) hl fun lo lo0 lo1 => ?_
  intro x hx
  refine ⟨x, ⟨2 + w, 1 + h, er, fa, lo⟩, rfl, up_same, ⟨by dsimp only; omega, by dsimp only; omega, by dsimp only; omega, by dsimp only; omega, by dsimp only; omega⟩, ?_⟩
  rw [up_up]
  refine ⟨rfl, ?_⟩
  simp only [up_same, dl_up hx, dSeq, dIfS, dTest, dOp, dName, dC, dRet, dLstF, dCons, dNil, dTup, dNext, dAsg, dLstM, gdName, dDrop, dM, dM0, dIf, dAnd, dOr, dNot, dAndV, dOrV, dNotV, dChain, dFz, dRetF, dRetN, dBreak, dCont, dCB, gdTup, gdCons, gdNil, gdSub, dNeg, dAug, dAugS, dFrz, dPar, dNoPart, dPart, dSlice, dYes, wipeD, i2, d1, d2, d3, startD, List.map_cons, List.map_nil, List.length_cons, List.length_nil, List.cons_append, List.nil_append, List.append_nil, List.getElem?_cons_zero, List.getElem?_cons_succ, List.getElem?_nil, List.replicate, List.set_cons_succ, List.set_cons_zero, Nat.reduceAdd, Nat.reduceSub, Nat.reduceLeDiff, run_eqi, run_nei, run_lt, run_le, run_gt, run_ge, run_addi, run_iaddi, true_and, and_true, Bool.not_eq_true, Bool.not_true, Bool.not_false, if_true, if_false, Bool.false_eq_true, ite_true, ite_false, reduceIte, reduceCtorEq, decide_eq_true_eq, decide_eq_false_iff_not, Option.isSome_some, Option.isSome_none, Bool.true_bne, Bool.false_bne]
  exact q ⟨2 + w, 1 + h, er, fa, lo⟩ _ ⟨by dsimp only; omega, by dsimp only; omega, by dsimp only; omega, by dsimp only; omega, by dsimp only; omega⟩
end M
namespace M
open PySem PySem.Spec PyProof.Rows L2 DL
variable [CA]

/-! ### drawn skies, pictures -/
structure DrS (most : Int) (s : Sk) : Prop where
  ok : OkSk s
  gr : GrD most 6 s.cs
  cm : (2 ≤ s.cam.w ∧ s.cam.w ≤ 4) ∧ (1 ≤ s.cam.h ∧ s.cam.h ≤ 3) ∧ (0 ≤ s.cam.er ∧ s.cam.er ≤ 1) ∧ (0 ≤ s.cam.fa ∧ s.cam.fa ≤ 1) ∧ (0 ≤ s.cam.lo ∧ s.cam.lo ≤ 1)
  tu : s.tu ∈ [[0], [0, 1], [0, 2], [1, 3], [0, 1, 2, 3]]
  a1 : -2 ≤ s.ar.1 ∧ s.ar.1 ≤ 0 ∧ s.ar.1 ≤ s.ar.2.1 ∧ s.ar.2.1 ≤ s.ar.1 + 2
  a2 : -2 ≤ s.ar.2.2.1 ∧ s.ar.2.2.1 ≤ 0 ∧ s.ar.2.2.1 ≤ s.ar.2.2.2 ∧ s.ar.2.2.2 ≤ s.ar.2.2.1 + 2
def tuL : List (List Int) := [[0], [0, 1], [0, 2], [1, 3], [0, 1, 2, 3]]
theorem tu_facts : ∀ tu ∈ tuL, tu ≠ [] ∧ (∀ t ∈ tu, 0 ≤ t ∧ t ≤ 3) ∧ tu.Pairwise (· < ·) ∧ tu.length ≤ 4 := by
  intro tu h
  simp only [tuL, List.mem_cons, List.not_mem_nil, or_false] at h
  rcases h with rfl | rfl | rfl | rfl | rfl
  all_goals decide
theorem few_of {n : Nat} {x y : Int} (hn : n ≤ 4) (hx : 0 ≤ x ∧ x ≤ 3) (hy : 0 ≤ y ∧ y ≤ 3) : (n : Int) * x * y ≤ 40000 := by
  have h1 : (n : Int) * x ≤ 4 * 3 := Int.mul_le_mul (by omega) hx.2 hx.1 (by omega)
  have h2 : (n : Int) * x * y ≤ 12 * 3 := Int.mul_le_mul h1 hy.2 hy.1 (by omega)
  omega
def sp__law_sky : DRn := fun l G Q => ∃ (a : Addr) (ns : List Int) (c : Int) (G0 : DHp) (most : Int), l = [.ref a, .int most] ∧ G = Gw G0 a ns c ∧ ns.length ≤ 63 ∧ (0 ≤ most ∧ most ≤ 90) ∧ ∀ s c', DrS most s → Q (sD s) (Gw G0 a ns c')
abbrev N__law_sky : List Str := ["draw", "most", "ground", "camera", "turns", "first", "second"]
def T__law_sky : DTS :=
    (dSeq (dPar 2 3 (dCons (dCB sp__law_ground (dCons (dName 0) (dCons (dName 1) (dCons (dC (.int 6)) dNil)))) (dCons (dCB sp__law_camera (dCons (dName 0) dNil)) dNil)))
    (dSeq (dAsg (dCB sp__law_pick (dCons (dName 0) (dCons (dLstF (dCons (dTup (dCons (dC (.int 0)) dNil)) (dCons (dTup (dCons (dC (.int 0)) (dCons (dC (.int 1)) dNil))) (dCons (dTup (dCons (dC (.int 0)) (dCons (dC (.int 2)) dNil))) (dCons (dTup (dCons (dC (.int 1)) (dCons (dC (.int 3)) dNil))) (dCons (dTup (dCons (dC (.int 0)) (dCons (dC (.int 1)) (dCons (dC (.int 2)) (dCons (dC (.int 3)) dNil))))) dNil)))))) dNil))) (gdName 4))
    (dSeq (dPar 5 6 (dCons (dOp dSub (dC (.int 0)) (dCB sp__law_take (dCons (dName 0) (dCons (dC (.int 3)) dNil)))) (dCons (dOp dSub (dC (.int 0)) (dCB sp__law_take (dCons (dName 0) (dCons (dC (.int 3)) dNil)))) dNil)))
    (dRet (dFz (dMake CA.Sky sp_Sky___init__ (dCons (dName 2) (dCons (dName 3) (dCons (dName 4) (dCons (dTup (dCons (dName 5) (dCons (dOp dAdd (dName 5) (dCB sp__law_take (dCons (dName 0) (dCons (dC (.int 3)) dNil)))) (dCons (dName 6) (dCons (dOp dAdd (dName 6) (dCB sp__law_take (dCons (dName 0) (dCons (dC (.int 3)) dNil)))) dNil))))) dNil))))))))))
theorem len__law_sky : ∀ ds G Q, sp__law_sky ds G Q → ds.length = 2 := fun ds G Q ⟨_, _, _, _, _, e, _⟩ => by rw [e]; rfl
theorem run__law_sky : ∀ ds G Q, sp__law_sky ds G Q → T__law_sky { nx := fun _ G' => Q .non G', rt := Q } (startD N__law_sky ds) G := fun l G Q h => by
  obtain ⟨a, ns, c, G0, most, rfl, rfl, hl, hm, q⟩ := h
  simp only [T__law_sky, N__law_sky, dSeq, dIfS, dTest, dOp, dName, dC, dRet, dLstF, dCons, dNil, dTup, dNext, dAsg, dLstM, gdName, dDrop, dM, dM0, dIf, dAnd, dOr, dNot, dAndV, dOrV, dNotV, dChain, dFz, dRetF, dRetN, dBreak, dCont, dCB, gdTup, gdCons, gdNil, gdSub, dNeg, dAug, dAugS, dFrz, dPar, dNoPart, dPart, dSlice, dYes, wipeD, i2, d1, d2, d3, startD, List.map_cons, List.map_nil, List.length_cons, List.length_nil, List.cons_append, List.nil_append, List.append_nil, List.getElem?_cons_zero, List.getElem?_cons_succ, List.getElem?_nil, List.replicate, List.set_cons_succ, List.set_cons_zero, Nat.reduceAdd, Nat.reduceSub, Nat.reduceLeDiff, run_eqi, run_nei, run_lt, run_le, run_gt, run_ge, run_addi, run_iaddi, true_and, and_true, Bool.not_eq_true, Bool.not_true, Bool.not_false, if_true, if_false, Bool.false_eq_true, ite_true, ite_false, reduceIte, reduceCtorEq, decide_eq_true_eq, decide_eq_false_iff_not, Option.isSome_some, Option.isSome_none, Bool.true_bne, Bool.false_bne]
  refine ⟨a, ns, c, G0, most, 6, rfl, rfl, hl, hm, by decide, fun cs c1 gr => ?_⟩
  refine ⟨a, ns, c1, G0, rfl, rfl, hl, fun cam c2 cm => ?_⟩
  simp only [dSeq, dIfS, dTest, dOp, dName, dC, dRet, dLstF, dCons, dNil, dTup, dNext, dAsg, dLstM, gdName, dDrop, dM, dM0, dIf, dAnd, dOr, dNot, dAndV, dOrV, dNotV, dChain, dFz, dRetF, dRetN, dBreak, dCont, dCB, gdTup, gdCons, gdNil, gdSub, dNeg, dAug, dAugS, dFrz, dPar, dNoPart, dPart, dSlice, dYes, wipeD, i2, d1, d2, d3, startD, List.map_cons, List.map_nil, List.length_cons, List.length_nil, List.cons_append, List.nil_append, List.append_nil, List.getElem?_cons_zero, List.getElem?_cons_succ, List.getElem?_nil, List.replicate, List.set_cons_succ, List.set_cons_zero, Nat.reduceAdd, Nat.reduceSub, Nat.reduceLeDiff, run_eqi, run_nei, run_lt, run_le, run_gt, run_ge, run_addi, run_iaddi, true_and, and_true, Bool.not_eq_true, Bool.not_true, Bool.not_false, if_true, if_false, Bool.false_eq_true, ite_true, ite_false, reduceIte, reduceCtorEq, decide_eq_true_eq, decide_eq_false_iff_not, Option.isSome_some, Option.isSome_none, Bool.true_bne, Bool.false_bne]
  refine ⟨a, ns, c2, G0, _, tuL.map (eT .int), rfl, rfl, hl, .inl rfl, by decide, fun d hd => ?_⟩
  obtain ⟨tu, htu, rfl⟩ := List.mem_map.mp hd
  obtain ⟨t1, t2, t3, t4⟩ := tu_facts tu htu
  refine gw_take (by decide) hl fun x x0 x1 => ?_
  simp only [dSeq, dIfS, dTest, dOp, dName, dC, dRet, dLstF, dCons, dNil, dTup, dNext, dAsg, dLstM, gdName, dDrop, dM, dM0, dIf, dAnd, dOr, dNot, dAndV, dOrV, dNotV, dChain, dFz, dRetF, dRetN, dBreak, dCont, dCB, gdTup, gdCons, gdNil, gdSub, dNeg, dAug, dAugS, dFrz, dPar, dNoPart, dPart, dSlice, dYes, wipeD, i2, d1, d2, d3, startD, List.map_cons, List.map_nil, List.length_cons, List.length_nil, List.cons_append, List.nil_append, List.append_nil, List.getElem?_cons_zero, List.getElem?_cons_succ, List.getElem?_nil, List.replicate, List.set_cons_succ, List.set_cons_zero, Nat.reduceAdd, Nat.reduceSub, Nat.reduceLeDiff, run_eqi, run_nei, run_lt, run_le, run_gt, run_ge, run_addi, run_iaddi, true_and, and_true, Bool.not_eq_true, Bool.not_true, Bool.not_false, if_true, if_false, Bool.false_eq_true, ite_true, ite_false, reduceIte, reduceCtorEq, decide_eq_true_eq, decide_eq_false_iff_not, Option.isSome_some, Option.isSome_none, Bool.true_bne, Bool.false_bne]
  refine gw_take (by decide) hl fun y y0 y1 => ?_
  simp only [dMake, dSeq, dIfS, dTest, dOp, dName, dC, dRet, dLstF, dCons, dNil, dTup, dNext, dAsg, dLstM, gdName, dDrop, dM, dM0, dIf, dAnd, dOr, dNot, dAndV, dOrV, dNotV, dChain, dFz, dRetF, dRetN, dBreak, dCont, dCB, gdTup, gdCons, gdNil, gdSub, dNeg, dAug, dAugS, dFrz, dPar, dNoPart, dPart, dSlice, dYes, wipeD, i2, d1, d2, d3, startD, List.map_cons, List.map_nil, List.length_cons, List.length_nil, List.cons_append, List.nil_append, List.append_nil, List.getElem?_cons_zero, List.getElem?_cons_succ, List.getElem?_nil, List.replicate, List.set_cons_succ, List.set_cons_zero, Nat.reduceAdd, Nat.reduceSub, Nat.reduceLeDiff, run_eqi, run_nei, run_lt, run_le, run_gt, run_ge, run_addi, run_iaddi, true_and, and_true, Bool.not_eq_true, Bool.not_true, Bool.not_false, if_true, if_false, Bool.false_eq_true, ite_true, ite_false, reduceIte, reduceCtorEq, decide_eq_true_eq, decide_eq_false_iff_not, Option.isSome_some, Option.isSome_none, Bool.true_bne, Bool.false_bne]
  refine gw_take (by decide) hl fun z z0 z1 => ?_
  simp only [dSeq, dIfS, dTest, dOp, dName, dC, dRet, dLstF, dCons, dNil, dTup, dNext, dAsg, dLstM, gdName, dDrop, dM, dM0, dIf, dAnd, dOr, dNot, dAndV, dOrV, dNotV, dChain, dFz, dRetF, dRetN, dBreak, dCont, dCB, gdTup, gdCons, gdNil, gdSub, dNeg, dAug, dAugS, dFrz, dPar, dNoPart, dPart, dSlice, dYes, wipeD, i2, d1, d2, d3, startD, List.map_cons, List.map_nil, List.length_cons, List.length_nil, List.cons_append, List.nil_append, List.append_nil, List.getElem?_cons_zero, List.getElem?_cons_succ, List.getElem?_nil, List.replicate, List.set_cons_succ, List.set_cons_zero, Nat.reduceAdd, Nat.reduceSub, Nat.reduceLeDiff, run_eqi, run_nei, run_lt, run_le, run_gt, run_ge, run_addi, run_iaddi, true_and, and_true, Bool.not_eq_true, Bool.not_true, Bool.not_false, if_true, if_false, Bool.false_eq_true, ite_true, ite_false, reduceIte, reduceCtorEq, decide_eq_true_eq, decide_eq_false_iff_not, Option.isSome_some, Option.isSome_none, Bool.true_bne, Bool.false_bne]
  refine gw_take (by decide) hl fun w w0 w1 => ?_
  intro p hp
  refine ⟨p, ⟨cs, cam, tu, 0 - x, 0 - x + z, 0 - y, 0 - y + w⟩, rfl, up_same, ⟨t1, t2, t3, t4, by dsimp only; omega, by dsimp only; omega, few_of t4 (by dsimp only; omega) (by dsimp only; omega)⟩, ?_⟩
  rw [up_up]
  refine ⟨rfl, ?_⟩
  simp only [up_same, dl_up hp, dSeq, dIfS, dTest, dOp, dName, dC, dRet, dLstF, dCons, dNil, dTup, dNext, dAsg, dLstM, gdName, dDrop, dM, dM0, dIf, dAnd, dOr, dNot, dAndV, dOrV, dNotV, dChain, dFz, dRetF, dRetN, dBreak, dCont, dCB, gdTup, gdCons, gdNil, gdSub, dNeg, dAug, dAugS, dFrz, dPar, dNoPart, dPart, dSlice, dYes, wipeD, i2, d1, d2, d3, startD, List.map_cons, List.map_nil, List.length_cons, List.length_nil, List.cons_append, List.nil_append, List.append_nil, List.getElem?_cons_zero, List.getElem?_cons_succ, List.getElem?_nil, List.replicate, List.set_cons_succ, List.set_cons_zero, Nat.reduceAdd, Nat.reduceSub, Nat.reduceLeDiff, run_eqi, run_nei, run_lt, run_le, run_gt, run_ge, run_addi, run_iaddi, true_and, and_true, Bool.not_eq_true, Bool.not_true, Bool.not_false, if_true, if_false, Bool.false_eq_true, ite_true, ite_false, reduceIte, reduceCtorEq, decide_eq_true_eq, decide_eq_false_iff_not, Option.isSome_some, Option.isSome_none, Bool.true_bne, Bool.false_bne]
  obtain ⟨c1', c2', c3', c4', c5'⟩ := cm
  have gl := gr.len
  exact q ⟨cs, cam, tu, 0 - x, 0 - x + z, 0 - y, 0 - y + w⟩ _ ⟨⟨by dsimp only; omega, fun p hp => by
    obtain ⟨b1, b2, b3⟩ := gr.bd p hp
    exact ⟨⟨by omega, by omega⟩, ⟨by omega, by omega⟩, by omega, by omega⟩, ⟨by dsimp only; omega, by dsimp only; omega, by dsimp only; omega, by dsimp only; omega, by dsimp only; omega⟩, t4, by dsimp only; omega, by dsimp only; omega, by dsimp only; omega, by dsimp only; omega⟩, gr, ⟨c1', c2', c3', c4', c5'⟩, htu, by dsimp only; omega, by dsimp only; omega⟩
def inPic (c : Cam) (p : Pt) : Prop := okPt 0 1000 p ∧ inC c p.1 p.2.1 0
def sp__law_spots : DRn := fun l G Q => ∃ cam : Cam, l = [cD cam] ∧ okCam cam ∧ cam.w ≤ 100 ∧ cam.h ≤ 100 ∧ ∀ L : List Pt, L ≠ [] → (∀ p ∈ L, inPic cam p) → Q (eL e3 L) G
abbrev N__law_spots : List Str := ["camera", "found", "x", "y"]
def T__law_spots : DTS :=
    (dSeq (dAsg (dLstM dNil) (gdName 1))
    (dSeq (dFor (diRange1 (dCons (dFld CA.Camera "width" (dName 0)) dNil)) (gdName 2)
    (dFor (diRange1 (dCons (dFld CA.Camera "height" (dName 0)) dNil)) (gdName 3)
    (dAug 1 (dLstF (dCons (dTup (dCons (dName 2) (dCons (dName 3) (dCons (dC (.int 1)) dNil)))) (dCons (dTup (dCons (dName 2) (dCons (dName 3) (dCons (dC (.int 2)) dNil)))) dNil))) dIAdd)))
    (dRetF (dName 1))))
theorem len__law_spots : ∀ ds G Q, sp__law_spots ds G Q → ds.length = 1 := fun ds G Q ⟨_, e, _⟩ => by rw [e]; rfl
theorem run__law_spots : ∀ ds G Q, sp__law_spots ds G Q → T__law_spots { nx := fun _ G' => Q .non G', rt := Q } (startD N__law_spots ds) G := fun l G Q h => by
  obtain ⟨cam, rfl, ok, w1, h1, q⟩ := h
  obtain ⟨o1, o2, o3, o4, o5⟩ := ok
  simp only [T__law_spots, N__law_spots, dSeq, dIfS, dTest, dOp, dName, dC, dRet, dLstF, dCons, dNil, dTup, dNext, dAsg, dLstM, gdName, dDrop, dM, dM0, dIf, dAnd, dOr, dNot, dAndV, dOrV, dNotV, dChain, dFz, dRetF, dRetN, dBreak, dCont, dCB, gdTup, gdCons, gdNil, gdSub, dNeg, dAug, dAugS, dFrz, dPar, dNoPart, dPart, dSlice, dYes, wipeD, i2, d1, d2, d3, startD, List.map_cons, List.map_nil, List.length_cons, List.length_nil, List.cons_append, List.nil_append, List.append_nil, List.getElem?_cons_zero, List.getElem?_cons_succ, List.getElem?_nil, List.replicate, List.set_cons_succ, List.set_cons_zero, Nat.reduceAdd, Nat.reduceSub, Nat.reduceLeDiff, run_eqi, run_nei, run_lt, run_le, run_gt, run_ge, run_addi, run_iaddi, true_and, and_true, Bool.not_eq_true, Bool.not_true, Bool.not_false, if_true, if_false, Bool.false_eq_true, ite_true, ite_false, reduceIte, reduceCtorEq, decide_eq_true_eq, decide_eq_false_iff_not, Option.isSome_some, Option.isSome_none, Bool.true_bne, Bool.false_bne]
  intro p hp
  simp only [dFor, diRange1, dFld, fl_width, fl_height, dSeq, dIfS, dTest, dOp, dName, dC, dRet, dLstF, dCons, dNil, dTup, dNext, dAsg, dLstM, gdName, dDrop, dM, dM0, dIf, dAnd, dOr, dNot, dAndV, dOrV, dNotV, dChain, dFz, dRetF, dRetN, dBreak, dCont, dCB, gdTup, gdCons, gdNil, gdSub, dNeg, dAug, dAugS, dFrz, dPar, dNoPart, dPart, dSlice, dYes, wipeD, i2, d1, d2, d3, startD, List.map_cons, List.map_nil, List.length_cons, List.length_nil, List.cons_append, List.nil_append, List.append_nil, List.getElem?_cons_zero, List.getElem?_cons_succ, List.getElem?_nil, List.replicate, List.set_cons_succ, List.set_cons_zero, Nat.reduceAdd, Nat.reduceSub, Nat.reduceLeDiff, run_eqi, run_nei, run_lt, run_le, run_gt, run_ge, run_addi, run_iaddi, true_and, and_true, Bool.not_eq_true, Bool.not_true, Bool.not_false, if_true, if_false, Bool.false_eq_true, ite_true, ite_false, reduceIte, reduceCtorEq, decide_eq_true_eq, decide_eq_false_iff_not, Option.isSome_some, Option.isSome_none, Bool.true_bne, Bool.false_bne]
  refine ⟨⟨by omega, by omega⟩, fun i η G' => ∃ a b L, η = [some (cD cam), some (.ref p), a, b] ∧ G' = up G p (.lst (L.map e3)) ∧ L.length = i * (2 * cam.h.toNat) ∧ ∀ p ∈ L, inPic cam p, ⟨none, none, [], rfl, rfl, by simp, by simp⟩, fun _ _ _ _ => trivial, ?_, ?_⟩
  · rintro i d η G' hd ⟨a, b, L, rfl, rfl, hL, bd⟩
    obtain ⟨x, hx, rfl⟩ := get_map hd
    have hi := (List.getElem?_eq_some_iff.mp hx).1
    rw [len_range] at hi
    have xm := mem_range.mp (List.mem_of_getElem? hx)
    simp only [fl_height, dSeq, dIfS, dTest, dOp, dName, dC, dRet, dLstF, dCons, dNil, dTup, dNext, dAsg, dLstM, gdName, dDrop, dM, dM0, dIf, dAnd, dOr, dNot, dAndV, dOrV, dNotV, dChain, dFz, dRetF, dRetN, dBreak, dCont, dCB, gdTup, gdCons, gdNil, gdSub, dNeg, dAug, dAugS, dFrz, dPar, dNoPart, dPart, dSlice, dYes, wipeD, i2, d1, d2, d3, startD, List.map_cons, List.map_nil, List.length_cons, List.length_nil, List.cons_append, List.nil_append, List.append_nil, List.getElem?_cons_zero, List.getElem?_cons_succ, List.getElem?_nil, List.replicate, List.set_cons_succ, List.set_cons_zero, Nat.reduceAdd, Nat.reduceSub, Nat.reduceLeDiff, run_eqi, run_nei, run_lt, run_le, run_gt, run_ge, run_addi, run_iaddi, true_and, and_true, Bool.not_eq_true, Bool.not_true, Bool.not_false, if_true, if_false, Bool.false_eq_true, ite_true, ite_false, reduceIte, reduceCtorEq, decide_eq_true_eq, decide_eq_false_iff_not, Option.isSome_some, Option.isSome_none, Bool.true_bne, Bool.false_bne]
    refine ⟨⟨by omega, by omega⟩, fun j η G' => ∃ b L, η = [some (cD cam), some (.ref p), some (.int x), b] ∧ G' = up G p (.lst (L.map e3)) ∧ L.length = i * (2 * cam.h.toNat) + 2 * j ∧ ∀ p ∈ L, inPic cam p, ⟨b, L, rfl, rfl, by omega, bd⟩, fun _ _ _ _ => trivial, ?_, ?_⟩
    · rintro j d η G' hd ⟨b, L, rfl, rfl, hL, bd⟩
      obtain ⟨y, hy, rfl⟩ := get_map hd
      have hj := (List.getElem?_eq_some_iff.mp hy).1
      rw [len_range] at hj
      have ym := mem_range.mp (List.mem_of_getElem? hy)
      simp only [dSeq, dIfS, dTest, dOp, dName, dC, dRet, dLstF, dCons, dNil, dTup, dNext, dAsg, dLstM, gdName, dDrop, dM, dM0, dIf, dAnd, dOr, dNot, dAndV, dOrV, dNotV, dChain, dFz, dRetF, dRetN, dBreak, dCont, dCB, gdTup, gdCons, gdNil, gdSub, dNeg, dAug, dAugS, dFrz, dPar, dNoPart, dPart, dSlice, dYes, wipeD, i2, d1, d2, d3, startD, List.map_cons, List.map_nil, List.length_cons, List.length_nil, List.cons_append, List.nil_append, List.append_nil, List.getElem?_cons_zero, List.getElem?_cons_succ, List.getElem?_nil, List.replicate, List.set_cons_succ, List.set_cons_zero, Nat.reduceAdd, Nat.reduceSub, Nat.reduceLeDiff, run_eqi, run_nei, run_lt, run_le, run_gt, run_ge, run_addi, run_iaddi, true_and, and_true, Bool.not_eq_true, Bool.not_true, Bool.not_false, if_true, if_false, Bool.false_eq_true, ite_true, ite_false, reduceIte, reduceCtorEq, decide_eq_true_eq, decide_eq_false_iff_not, Option.isSome_some, Option.isSome_none, Bool.true_bne, Bool.false_bne]
      refine run_iext (xs := L.map e3) (ys := [e3 (x, y, 1), e3 (x, y, 2)]) up_same rfl (le_line ?_) ?_
      · rw [List.length_map, hL]
        have : i * (2 * cam.h.toNat) ≤ 100 * 200 := Nat.mul_le_mul (by omega) (by omega)
        show _ + 2 ≤ _
        omega
      · rw [up_up]
        refine ⟨_, (by repeat (first | exact Le.nil | apply Le.keep | apply Le.drop)), _, L ++ [(x, y, 1), (x, y, 2)], rfl, by rw [List.map_append]; rfl, by rw [List.length_append, hL]; show _ + 2 = _; omega, ?_⟩
        intro u hu
        rcases List.mem_append.mp hu with hu | hu
        · exact bd u hu
        · simp only [List.mem_cons, List.not_mem_nil, or_false] at hu
          rcases hu with rfl | rfl
          · exact ⟨⟨⟨by dsimp only; omega, by dsimp only; omega⟩, ⟨by dsimp only; omega, by dsimp only; omega⟩, by dsimp only; omega, by dsimp only; omega⟩, ⟨by dsimp only; omega, by dsimp only; omega⟩, by dsimp only; omega, by dsimp only; omega⟩
          · exact ⟨⟨⟨by dsimp only; omega, by dsimp only; omega⟩, ⟨by dsimp only; omega, by dsimp only; omega⟩, by dsimp only; omega, by dsimp only; omega⟩, ⟨by dsimp only; omega, by dsimp only; omega⟩, by dsimp only; omega, by dsimp only; omega⟩
    · rintro η G' ⟨b, L, rfl, rfl, hL, bd⟩
      rw [List.length_map, len_range] at hL
      refine ⟨_, (by repeat (first | exact Le.nil | apply Le.keep | apply Le.drop)), _, _, L, rfl, rfl, ?_, bd⟩
      have e := Nat.succ_mul i (2 * cam.h.toNat)
      rw [hL, e]
      omega
  · rintro η G' ⟨a, b, L, rfl, rfl, hL, bd⟩
    rw [List.length_map, len_range] at hL
    simp only [up_same, dl_up hp, dSeq, dIfS, dTest, dOp, dName, dC, dRet, dLstF, dCons, dNil, dTup, dNext, dAsg, dLstM, gdName, dDrop, dM, dM0, dIf, dAnd, dOr, dNot, dAndV, dOrV, dNotV, dChain, dFz, dRetF, dRetN, dBreak, dCont, dCB, gdTup, gdCons, gdNil, gdSub, dNeg, dAug, dAugS, dFrz, dPar, dNoPart, dPart, dSlice, dYes, wipeD, i2, d1, d2, d3, startD, List.map_cons, List.map_nil, List.length_cons, List.length_nil, List.cons_append, List.nil_append, List.append_nil, List.getElem?_cons_zero, List.getElem?_cons_succ, List.getElem?_nil, List.replicate, List.set_cons_succ, List.set_cons_zero, Nat.reduceAdd, Nat.reduceSub, Nat.reduceLeDiff, run_eqi, run_nei, run_lt, run_le, run_gt, run_ge, run_addi, run_iaddi, true_and, and_true, Bool.not_eq_true, Bool.not_true, Bool.not_false, if_true, if_false, Bool.false_eq_true, ite_true, ite_false, reduceIte, reduceCtorEq, decide_eq_true_eq, decide_eq_false_iff_not, Option.isSome_some, Option.isSome_none, Bool.true_bne, Bool.false_bne]
    refine q L (fun e => ?_) bd
    rw [e, List.length_nil] at hL
    have : 1 * 2 ≤ (cam.w - 0).toNat * (2 * cam.h.toNat) := Nat.mul_le_mul (by omega) (by omega)
    omega
end M
namespace M
open PySem PySem.Spec PyProof.Rows L2 DL
variable [CA]

/-! ### _law_picture -/
theorem run_slL {x : D} {lo hi : Option Int} {ds : List D} {G : DHp} {Q : DVK} (h : der x G = .nd .lst ds) (q : Q (.nd .lst (cutD ds lo hi)) G) : dSl x lo hi G Q := by
  unfold dSl
  rw [h]
  exact q
def sp__law_picture : DRn := fun l G Q => ∃ (a : Addr) (ns : List Int) (c : Int) (G0 : DHp) (s : Sk) (st : Pt), l = [.ref a, sD s, e3 st] ∧ G = Gw G0 a ns c ∧ ns.length ≤ 63 ∧ OkSk s ∧ s.cam.w ≤ 100 ∧ s.cam.h ≤ 100 ∧ ∀ pic c', okPic s.cam pic → pic.length ≤ 300 → Q (eT e3 pic) (Gw G0 a ns c')
abbrev N__law_picture : List Str := ["draw", "sky", "standing", "camera", "found", "x", "y", "size", "point", "turn", "at"]
def T__law_picture : DTS :=
    (dSeq (dPar 3 4 (dCons (dFld CA.Sky "camera" (dName 1)) (dCons (dLstM dNil) dNil)))
    (dSeq (dFor (diSeq (dMeth CA.Sky "places" sp_Sky_places (dName 1) (dCons (dName 2) dNil))) (gdTup (gdCons (gdName 5) (gdCons (gdName 6) (gdCons (gdName 7) gdNil))) 3)
    (dSeq (dAsg (dTup (dCons (dOp dSub (dOp dAdd (dName 5) (dCB sp__law_take (dCons (dName 0) (dCons (dOp dAdd (dOp dMul (dC (.int 2)) (dFld CA.Camera "error" (dName 3))) (dC (.int 1))) dNil)))) (dFld CA.Camera "error" (dName 3))) (dCons (dOp dSub (dOp dAdd (dName 6) (dCB sp__law_take (dCons (dName 0) (dCons (dOp dAdd (dOp dMul (dC (.int 2)) (dFld CA.Camera "error" (dName 3))) (dC (.int 1))) dNil)))) (dFld CA.Camera "error" (dName 3))) (dCons (dName 7) dNil)))) (gdName 8))
    (dIfS (dAnd (dTest (dChain dLe dLt (dC (.int 0)) (dOp dIx (dName 8) (dC (.int 0))) (dFld CA.Camera "width" (dName 3)))) (dAnd (dTest (dChain dLe dLt (dC (.int 0)) (dOp dIx (dName 8) (dC (.int 1))) (dFld CA.Camera "height" (dName 3)))) (dTest (dOp dGt (dCB sp__law_take (dCons (dName 0) (dCons (dC (.int 6)) dNil))) (dC (.int 0))))))
    (dDrop (dM "list" dAppend (dName 4) (dCons (dName 8) dNil)))
    dNext)))
    (dSeq (dFor (diRange1 (dCons (dCB sp__law_take (dCons (dName 0) (dCons (dOp dAdd (dFld CA.Camera "false" (dName 3)) (dC (.int 2))) dNil))) dNil)) (gdName 9)
    (dDrop (dM "list" dAppend (dName 4) (dCons (dCB sp__law_pick (dCons (dName 0) (dCons (dCB sp__law_spots (dCons (dName 3) dNil)) dNil))) dNil))))
    (dSeq (dIfS (dAnd (dTest (dOp dNe (dName 4) (dLstF dNil))) (dTest (dOp dEq (dCB sp__law_take (dCons (dName 0) (dCons (dC (.int 9)) dNil))) (dC (.int 0)))))
    (dDrop (dM "list" dAppend (dName 4) (dCons (dOp dIx (dName 4) (dC (.int 0))) dNil)))
    dNext)
    (dSeq (dAsg (dCB sp__law_take (dCons (dName 0) (dCons (dOp dAdd (dCB dLen (dCons (dName 4) dNil)) (dC (.int 1))) dNil))) (gdName 10))
    (dFrz 4 (dRet (dCB dTuple (dCons (dOp dAdd (dSlice dSl (dName 4) (dPart (dName 10)) dNoPart) (dSlice dSl (dName 4) dNoPart (dPart (dName 10)))) dNil)))))))))
theorem len__law_picture : ∀ ds G Q, sp__law_picture ds G Q → ds.length = 3 := fun ds G Q ⟨_, _, _, _, _, _, e, _⟩ => by rw [e]; rfl
theorem okp_snoc {c : Cam} {L : List Pt} {p : Pt} (h : ∀ p ∈ L, inPic c p) (hp : inPic c p) : ∀ q ∈ L ++ [p], inPic c q := fun q hq => by
  rcases List.mem_append.mp hq with hq | hq
  · exact h q hq
  · rw [List.mem_singleton] at hq; rw [hq]; exact hp
theorem plc_size {s : Sk} (ok : OkSk s) {st p : Pt} (h : p ∈ placesL s st) : 1 ≤ p.2.2 ∧ p.2.2 ≤ 99 := by
  unfold placesL at h
  obtain ⟨c, hc, rfl⟩ := List.mem_map.mp h
  exact (ok.cb c hc).2.2
theorem run__law_picture : ∀ ds G Q, sp__law_picture ds G Q → T__law_picture { nx := fun _ G' => Q .non G', rt := Q } (startD N__law_picture ds) G := fun l G Q h => by
  obtain ⟨a, ns, c, G0, s, st, rfl, rfl, hl, ok, w1, h1, q⟩ := h
  have okc := ok.cam
  obtain ⟨o1, o2, o3, o4, o5⟩ := okc
  simp only [T__law_picture, N__law_picture, dFld, fl_camera, dSeq, dIfS, dTest, dOp, dName, dC, dRet, dLstF, dCons, dNil, dTup, dNext, dAsg, dLstM, gdName, dDrop, dM, dM0, dIf, dAnd, dOr, dNot, dAndV, dOrV, dNotV, dChain, dFz, dRetF, dRetN, dBreak, dCont, dCB, gdTup, gdCons, gdNil, gdSub, dNeg, dAug, dAugS, dFrz, dPar, dNoPart, dPart, dSlice, dYes, wipeD, i2, d1, d2, d3, startD, List.map_cons, List.map_nil, List.length_cons, List.length_nil, List.cons_append, List.nil_append, List.append_nil, List.getElem?_cons_zero, List.getElem?_cons_succ, List.getElem?_nil, List.replicate, List.set_cons_succ, List.set_cons_zero, Nat.reduceAdd, Nat.reduceSub, Nat.reduceLeDiff, run_eqi, run_nei, run_lt, run_le, run_gt, run_ge, run_addi, run_iaddi, true_and, and_true, Bool.not_eq_true, Bool.not_true, Bool.not_false, if_true, if_false, Bool.false_eq_true, ite_true, ite_false, reduceIte, reduceCtorEq, decide_eq_true_eq, decide_eq_false_iff_not, Option.isSome_some, Option.isSome_none, Bool.true_bne, Bool.false_bne]
  intro p hp
  obtain ⟨e, hap⟩ := gw_new (o := .lst []) hp
  have hgp := gw_none hap hp
  rw [e]
  simp only [dFor, diSeq, dMeth, dSeq, dIfS, dTest, dOp, dName, dC, dRet, dLstF, dCons, dNil, dTup, dNext, dAsg, dLstM, gdName, dDrop, dM, dM0, dIf, dAnd, dOr, dNot, dAndV, dOrV, dNotV, dChain, dFz, dRetF, dRetN, dBreak, dCont, dCB, gdTup, gdCons, gdNil, gdSub, dNeg, dAug, dAugS, dFrz, dPar, dNoPart, dPart, dSlice, dYes, wipeD, i2, d1, d2, d3, startD, List.map_cons, List.map_nil, List.length_cons, List.length_nil, List.cons_append, List.nil_append, List.append_nil, List.getElem?_cons_zero, List.getElem?_cons_succ, List.getElem?_nil, List.replicate, List.set_cons_succ, List.set_cons_zero, Nat.reduceAdd, Nat.reduceSub, Nat.reduceLeDiff, run_eqi, run_nei, run_lt, run_le, run_gt, run_ge, run_addi, run_iaddi, true_and, and_true, Bool.not_eq_true, Bool.not_true, Bool.not_false, if_true, if_false, Bool.false_eq_true, ite_true, ite_false, reduceIte, reduceCtorEq, decide_eq_true_eq, decide_eq_false_iff_not, Option.isSome_some, Option.isSome_none, Bool.true_bne, Bool.false_bne]
  refine ⟨ins_sky (by decide), s, st, rfl, ok.cs, ?_⟩
  unfold eL
  dsimp only
  refine ⟨fun i η G' => ∃ x1 x2 x3 x4 x5 x6 L c', η = [some (.ref a), some (sD s), some (e3 st), some (cD s.cam), some (.ref p), x1, x2, x3, x4, x5, x6] ∧ G' = Gw (up G0 p (.lst (L.map e3))) a ns c' ∧ L.length ≤ i ∧ ∀ p ∈ L, inPic s.cam p, ⟨none, none, none, none, none, none, [], _, rfl, rfl, Nat.le_refl _, by simp⟩, fun _ _ _ _ => trivial, ?_, ?_⟩
  · rintro i d η G' hd ⟨x1, x2, x3, x4, x5, x6, L, c', rfl, rfl, hL, bd⟩
    obtain ⟨z, hz, rfl⟩ := get_map hd
    have hi := (List.getElem?_eq_some_iff.mp hz).1
    rw [pl_len] at hi
    have hcs := ok.cs
    have zs := plc_size ok (List.mem_of_getElem? hz)
    simp only [e3, fl_error, dFld, dSeq, dIfS, dTest, dOp, dName, dC, dRet, dLstF, dCons, dNil, dTup, dNext, dAsg, dLstM, gdName, dDrop, dM, dM0, dIf, dAnd, dOr, dNot, dAndV, dOrV, dNotV, dChain, dFz, dRetF, dRetN, dBreak, dCont, dCB, gdTup, gdCons, gdNil, gdSub, dNeg, dAug, dAugS, dFrz, dPar, dNoPart, dPart, dSlice, dYes, wipeD, i2, d1, d2, d3, startD, List.map_cons, List.map_nil, List.length_cons, List.length_nil, List.cons_append, List.nil_append, List.append_nil, List.getElem?_cons_zero, List.getElem?_cons_succ, List.getElem?_nil, List.replicate, List.set_cons_succ, List.set_cons_zero, Nat.reduceAdd, Nat.reduceSub, Nat.reduceLeDiff, run_eqi, run_nei, run_lt, run_le, run_gt, run_ge, run_addi, run_iaddi, true_and, and_true, Bool.not_eq_true, Bool.not_true, Bool.not_false, if_true, if_false, Bool.false_eq_true, ite_true, ite_false, reduceIte, reduceCtorEq, decide_eq_true_eq, decide_eq_false_iff_not, Option.isSome_some, Option.isSome_none, Bool.true_bne, Bool.false_bne]
    refine ⟨mul_small (by decide), gw_take (by omega) hl fun u u0 u1 => ?_⟩
    simp only [fl_error, dSeq, dIfS, dTest, dOp, dName, dC, dRet, dLstF, dCons, dNil, dTup, dNext, dAsg, dLstM, gdName, dDrop, dM, dM0, dIf, dAnd, dOr, dNot, dAndV, dOrV, dNotV, dChain, dFz, dRetF, dRetN, dBreak, dCont, dCB, gdTup, gdCons, gdNil, gdSub, dNeg, dAug, dAugS, dFrz, dPar, dNoPart, dPart, dSlice, dYes, wipeD, i2, d1, d2, d3, startD, List.map_cons, List.map_nil, List.length_cons, List.length_nil, List.cons_append, List.nil_append, List.append_nil, List.getElem?_cons_zero, List.getElem?_cons_succ, List.getElem?_nil, List.replicate, List.set_cons_succ, List.set_cons_zero, Nat.reduceAdd, Nat.reduceSub, Nat.reduceLeDiff, run_eqi, run_nei, run_lt, run_le, run_gt, run_ge, run_addi, run_iaddi, true_and, and_true, Bool.not_eq_true, Bool.not_true, Bool.not_false, if_true, if_false, Bool.false_eq_true, ite_true, ite_false, reduceIte, reduceCtorEq, decide_eq_true_eq, decide_eq_false_iff_not, Option.isSome_some, Option.isSome_none, Bool.true_bne, Bool.false_bne]
    refine ⟨mul_small (by decide), gw_take (by omega) hl fun v v0 v1 => ?_⟩
    simp only [fl_error, dSeq, dIfS, dTest, dOp, dName, dC, dRet, dLstF, dCons, dNil, dTup, dNext, dAsg, dLstM, gdName, dDrop, dM, dM0, dIf, dAnd, dOr, dNot, dAndV, dOrV, dNotV, dChain, dFz, dRetF, dRetN, dBreak, dCont, dCB, gdTup, gdCons, gdNil, gdSub, dNeg, dAug, dAugS, dFrz, dPar, dNoPart, dPart, dSlice, dYes, wipeD, i2, d1, d2, d3, startD, List.map_cons, List.map_nil, List.length_cons, List.length_nil, List.cons_append, List.nil_append, List.append_nil, List.getElem?_cons_zero, List.getElem?_cons_succ, List.getElem?_nil, List.replicate, List.set_cons_succ, List.set_cons_zero, Nat.reduceAdd, Nat.reduceSub, Nat.reduceLeDiff, run_eqi, run_nei, run_lt, run_le, run_gt, run_ge, run_addi, run_iaddi, true_and, and_true, Bool.not_eq_true, Bool.not_true, Bool.not_false, if_true, if_false, Bool.false_eq_true, ite_true, ite_false, reduceIte, reduceCtorEq, decide_eq_true_eq, decide_eq_false_iff_not, Option.isSome_some, Option.isSome_none, Bool.true_bne, Bool.false_bne]
    have no : ∀ c'', Wk (fun η G' => ∃ (x1 x2 x3 x4 x5 x6 : Option D) (L : List Pt) (c' : Int), η = [some (.ref a), some (sD s), some (e3 st), some (cD s.cam), some (.ref p), x1, x2, x3, x4, x5, x6] ∧ G' = Gw (up G0 p (.lst (L.map e3))) a ns c' ∧ L.length ≤ i + 1 ∧ ∀ p ∈ L, inPic s.cam p) [some (.ref a), some (sD s), some (e3 st), some (cD s.cam), some (.ref p), some (.int z.1), some (.int z.2.1), some (.int z.2.2), some (e3 (z.1 + u - s.cam.er, z.2.1 + v - s.cam.er, z.2.2)), x5, x6] (Gw (up G0 p (.lst (L.map e3))) a ns c'') := fun c'' => ⟨_, (by repeat (first | exact Le.nil | apply Le.keep | apply Le.drop)), _, _, _, _, _, _, L, c'', rfl, rfl, by omega, bd⟩
    refine run_ix (by decide) rfl ?_
    simp only [fl_width, dSeq, dIfS, dTest, dOp, dName, dC, dRet, dLstF, dCons, dNil, dTup, dNext, dAsg, dLstM, gdName, dDrop, dM, dM0, dIf, dAnd, dOr, dNot, dAndV, dOrV, dNotV, dChain, dFz, dRetF, dRetN, dBreak, dCont, dCB, gdTup, gdCons, gdNil, gdSub, dNeg, dAug, dAugS, dFrz, dPar, dNoPart, dPart, dSlice, dYes, wipeD, i2, d1, d2, d3, startD, List.map_cons, List.map_nil, List.length_cons, List.length_nil, List.cons_append, List.nil_append, List.append_nil, List.getElem?_cons_zero, List.getElem?_cons_succ, List.getElem?_nil, List.replicate, List.set_cons_succ, List.set_cons_zero, Nat.reduceAdd, Nat.reduceSub, Nat.reduceLeDiff, run_eqi, run_nei, run_lt, run_le, run_gt, run_ge, run_addi, run_iaddi, true_and, and_true, Bool.not_eq_true, Bool.not_true, Bool.not_false, if_true, if_false, Bool.false_eq_true, ite_true, ite_false, reduceIte, reduceCtorEq, decide_eq_true_eq, decide_eq_false_iff_not, Option.isSome_some, Option.isSome_none, Bool.true_bne, Bool.false_bne]
    by_cases c1 : 0 ≤ z.1 + u - s.cam.er
    · rw [if_pos c1]
      by_cases c2 : z.1 + u - s.cam.er < s.cam.w
      · rw [if_pos c2]
        refine run_ix (by decide) rfl ?_
        simp only [fl_height, dSeq, dIfS, dTest, dOp, dName, dC, dRet, dLstF, dCons, dNil, dTup, dNext, dAsg, dLstM, gdName, dDrop, dM, dM0, dIf, dAnd, dOr, dNot, dAndV, dOrV, dNotV, dChain, dFz, dRetF, dRetN, dBreak, dCont, dCB, gdTup, gdCons, gdNil, gdSub, dNeg, dAug, dAugS, dFrz, dPar, dNoPart, dPart, dSlice, dYes, wipeD, i2, d1, d2, d3, startD, List.map_cons, List.map_nil, List.length_cons, List.length_nil, List.cons_append, List.nil_append, List.append_nil, List.getElem?_cons_zero, List.getElem?_cons_succ, List.getElem?_nil, List.replicate, List.set_cons_succ, List.set_cons_zero, Nat.reduceAdd, Nat.reduceSub, Nat.reduceLeDiff, run_eqi, run_nei, run_lt, run_le, run_gt, run_ge, run_addi, run_iaddi, true_and, and_true, Bool.not_eq_true, Bool.not_true, Bool.not_false, if_true, if_false, Bool.false_eq_true, ite_true, ite_false, reduceIte, reduceCtorEq, decide_eq_true_eq, decide_eq_false_iff_not, Option.isSome_some, Option.isSome_none, Bool.true_bne, Bool.false_bne]
        by_cases c3 : 0 ≤ z.2.1 + v - s.cam.er
        · rw [if_pos c3]
          by_cases c4 : z.2.1 + v - s.cam.er < s.cam.h
          · rw [if_pos c4]
            refine gw_take (by decide) hl fun w w0 w1 => ?_
            simp only [dSeq, dIfS, dTest, dOp, dName, dC, dRet, dLstF, dCons, dNil, dTup, dNext, dAsg, dLstM, gdName, dDrop, dM, dM0, dIf, dAnd, dOr, dNot, dAndV, dOrV, dNotV, dChain, dFz, dRetF, dRetN, dBreak, dCont, dCB, gdTup, gdCons, gdNil, gdSub, dNeg, dAug, dAugS, dFrz, dPar, dNoPart, dPart, dSlice, dYes, wipeD, i2, d1, d2, d3, startD, List.map_cons, List.map_nil, List.length_cons, List.length_nil, List.cons_append, List.nil_append, List.append_nil, List.getElem?_cons_zero, List.getElem?_cons_succ, List.getElem?_nil, List.replicate, List.set_cons_succ, List.set_cons_zero, Nat.reduceAdd, Nat.reduceSub, Nat.reduceLeDiff, run_eqi, run_nei, run_lt, run_le, run_gt, run_ge, run_addi, run_iaddi, true_and, and_true, Bool.not_eq_true, Bool.not_true, Bool.not_false, if_true, if_false, Bool.false_eq_true, ite_true, ite_false, reduceIte, reduceCtorEq, decide_eq_true_eq, decide_eq_false_iff_not, Option.isSome_some, Option.isSome_none, Bool.true_bne, Bool.false_bne]
            by_cases c5 : 0 < w
            · rw [if_pos c5]
              refine run_app (y := e3 (z.1 + u - s.cam.er, z.2.1 + v - s.cam.er, z.2.2)) (gw_at hap) (small_line (by rw [List.length_map]; omega)) ?_
              rw [gw_up hap]
              refine ⟨_, (by repeat (first | exact Le.nil | apply Le.keep | apply Le.drop)), _, _, _, _, _, _, L ++ [(z.1 + u - s.cam.er, z.2.1 + v - s.cam.er, z.2.2)], _, rfl, by rw [List.map_append]; rfl, by rw [List.length_append, List.length_singleton]; omega, okp_snoc bd ⟨⟨⟨by dsimp only; omega, by dsimp only; omega⟩, ⟨by dsimp only; omega, by dsimp only; omega⟩, by dsimp only; omega, by dsimp only; omega⟩, ⟨by dsimp only; omega, by dsimp only; omega⟩, by dsimp only; omega, by dsimp only; omega⟩⟩
            · rw [if_neg c5]
              exact no _
          · rw [if_neg c4]
            exact no _
        · rw [if_neg c3]
          exact no _
      · rw [if_neg c2]
        exact no _
    · rw [if_neg c1]
      exact no _
  · rintro η G' ⟨x1, x2, x3, x4, x5, x6, L, c', rfl, rfl, hL, bd⟩
    rw [List.length_map, pl_len] at hL
    have hcs := ok.cs
    simp only [diRange1, dFld, fl_false, dSeq, dIfS, dTest, dOp, dName, dC, dRet, dLstF, dCons, dNil, dTup, dNext, dAsg, dLstM, gdName, dDrop, dM, dM0, dIf, dAnd, dOr, dNot, dAndV, dOrV, dNotV, dChain, dFz, dRetF, dRetN, dBreak, dCont, dCB, gdTup, gdCons, gdNil, gdSub, dNeg, dAug, dAugS, dFrz, dPar, dNoPart, dPart, dSlice, dYes, wipeD, i2, d1, d2, d3, startD, List.map_cons, List.map_nil, List.length_cons, List.length_nil, List.cons_append, List.nil_append, List.append_nil, List.getElem?_cons_zero, List.getElem?_cons_succ, List.getElem?_nil, List.replicate, List.set_cons_succ, List.set_cons_zero, Nat.reduceAdd, Nat.reduceSub, Nat.reduceLeDiff, run_eqi, run_nei, run_lt, run_le, run_gt, run_ge, run_addi, run_iaddi, true_and, and_true, Bool.not_eq_true, Bool.not_true, Bool.not_false, if_true, if_false, Bool.false_eq_true, ite_true, ite_false, reduceIte, reduceCtorEq, decide_eq_true_eq, decide_eq_false_iff_not, Option.isSome_some, Option.isSome_none, Bool.true_bne, Bool.false_bne]
    refine gw_take (by omega) hl fun n n0 n1 => ⟨⟨by omega, by omega⟩, ?_⟩
    refine ⟨fun i η G' => ∃ x5 L c', η = [some (.ref a), some (sD s), some (e3 st), some (cD s.cam), some (.ref p), x1, x2, x3, x4, x5, x6] ∧ G' = Gw (up G0 p (.lst (L.map e3))) a ns c' ∧ L.length ≤ 100 + i ∧ ∀ p ∈ L, inPic s.cam p, ⟨x5, L, _, rfl, rfl, by omega, bd⟩, fun _ _ _ _ => trivial, ?_, ?_⟩
    · rintro i d η G' hd ⟨x5, L, c', rfl, rfl, hL, bd⟩
      obtain ⟨z, hz, rfl⟩ := get_map hd
      have hi := (List.getElem?_eq_some_iff.mp hz).1
      rw [len_range] at hi
      simp only [dSeq, dIfS, dTest, dOp, dName, dC, dRet, dLstF, dCons, dNil, dTup, dNext, dAsg, dLstM, gdName, dDrop, dM, dM0, dIf, dAnd, dOr, dNot, dAndV, dOrV, dNotV, dChain, dFz, dRetF, dRetN, dBreak, dCont, dCB, gdTup, gdCons, gdNil, gdSub, dNeg, dAug, dAugS, dFrz, dPar, dNoPart, dPart, dSlice, dYes, wipeD, i2, d1, d2, d3, startD, List.map_cons, List.map_nil, List.length_cons, List.length_nil, List.cons_append, List.nil_append, List.append_nil, List.getElem?_cons_zero, List.getElem?_cons_succ, List.getElem?_nil, List.replicate, List.set_cons_succ, List.set_cons_zero, Nat.reduceAdd, Nat.reduceSub, Nat.reduceLeDiff, run_eqi, run_nei, run_lt, run_le, run_gt, run_ge, run_addi, run_iaddi, true_and, and_true, Bool.not_eq_true, Bool.not_true, Bool.not_false, if_true, if_false, Bool.false_eq_true, ite_true, ite_false, reduceIte, reduceCtorEq, decide_eq_true_eq, decide_eq_false_iff_not, Option.isSome_some, Option.isSome_none, Bool.true_bne, Bool.false_bne]
      refine ⟨by simp only [tyD, gw_at hap], s.cam, rfl, ⟨o1, o2, o3, o4, o5⟩, w1, h1, fun S hS hSb => ?_⟩
      refine ⟨a, ns, c', _, _, S.map e3, rfl, rfl, hl, .inl rfl, by rw [List.length_map]; exact List.length_pos_iff.mpr hS, fun d hd => ?_⟩
      obtain ⟨u, hu, rfl⟩ := List.mem_map.mp hd
      refine (run_app (y := e3 u) (gw_at hap) (small_line (by rw [List.length_map]; omega)) ?_).2
      rw [gw_up hap]
      exact ⟨_, (by repeat (first | exact Le.nil | apply Le.keep | apply Le.drop)), _, L ++ [u], _, rfl, by rw [List.map_append]; rfl, by rw [List.length_append, List.length_singleton]; omega, okp_snoc bd (hSb u hu)⟩
    · rintro η G' ⟨x5, L, c', rfl, rfl, hL, bd⟩
      rw [List.length_map, len_range] at hL
      have fin : ∀ (L : List Pt) (c' : Int), L.length ≤ 202 → (∀ p ∈ L, inPic s.cam p) → (dSeq (dAsg (dCB sp__law_take (dCons (dName 0) (dCons (dOp dAdd (dCB dLen (dCons (dName 4) dNil)) (dC (.int 1))) dNil))) (gdName 10))
    (dFrz 4 (dRet (dCB dTuple (dCons (dOp dAdd (dSlice dSl (dName 4) (dPart (dName 10)) dNoPart) (dSlice dSl (dName 4) dNoPart (dPart (dName 10)))) dNil))))) { nx := fun _ G' => Q .non G', rt := Q } [some (.ref a), some (sD s), some (e3 st), some (cD s.cam), some (.ref p), x1, x2, x3, x4, x5, x6] (Gw (up G0 p (.lst (L.map e3))) a ns c') := fun L c' hL bd => by
        simp only [dSeq, dIfS, dTest, dOp, dName, dC, dRet, dLstF, dCons, dNil, dTup, dNext, dAsg, dLstM, gdName, dDrop, dM, dM0, dIf, dAnd, dOr, dNot, dAndV, dOrV, dNotV, dChain, dFz, dRetF, dRetN, dBreak, dCont, dCB, gdTup, gdCons, gdNil, gdSub, dNeg, dAug, dAugS, dFrz, dPar, dNoPart, dPart, dSlice, dYes, wipeD, i2, d1, d2, d3, startD, List.map_cons, List.map_nil, List.length_cons, List.length_nil, List.cons_append, List.nil_append, List.append_nil, List.getElem?_cons_zero, List.getElem?_cons_succ, List.getElem?_nil, List.replicate, List.set_cons_succ, List.set_cons_zero, Nat.reduceAdd, Nat.reduceSub, Nat.reduceLeDiff, run_eqi, run_nei, run_lt, run_le, run_gt, run_ge, run_addi, run_iaddi, true_and, and_true, Bool.not_eq_true, Bool.not_true, Bool.not_false, if_true, if_false, Bool.false_eq_true, ite_true, ite_false, reduceIte, reduceCtorEq, decide_eq_true_eq, decide_eq_false_iff_not, Option.isSome_some, Option.isSome_none, Bool.true_bne, Bool.false_bne]
        rw [run_len (ds := L.map e3) (by show sqD (.ref p) _ = _; unfold sqD; rw [der_lt (gw_at hap)])]
        simp only [dSeq, dIfS, dTest, dOp, dName, dC, dRet, dLstF, dCons, dNil, dTup, dNext, dAsg, dLstM, gdName, dDrop, dM, dM0, dIf, dAnd, dOr, dNot, dAndV, dOrV, dNotV, dChain, dFz, dRetF, dRetN, dBreak, dCont, dCB, gdTup, gdCons, gdNil, gdSub, dNeg, dAug, dAugS, dFrz, dPar, dNoPart, dPart, dSlice, dYes, wipeD, i2, d1, d2, d3, startD, List.map_cons, List.map_nil, List.length_cons, List.length_nil, List.cons_append, List.nil_append, List.append_nil, List.getElem?_cons_zero, List.getElem?_cons_succ, List.getElem?_nil, List.replicate, List.set_cons_succ, List.set_cons_zero, Nat.reduceAdd, Nat.reduceSub, Nat.reduceLeDiff, run_eqi, run_nei, run_lt, run_le, run_gt, run_ge, run_addi, run_iaddi, true_and, and_true, Bool.not_eq_true, Bool.not_true, Bool.not_false, if_true, if_false, Bool.false_eq_true, ite_true, ite_false, reduceIte, reduceCtorEq, decide_eq_true_eq, decide_eq_false_iff_not, Option.isSome_some, Option.isSome_none, Bool.true_bne, Bool.false_bne]
        refine gw_take (by rw [List.length_map]; omega) hl fun n n0 n1 => ?_
        simp only [gw_at hap, gw_dl hap hgp, DO.tree, dSeq, dIfS, dTest, dOp, dName, dC, dRet, dLstF, dCons, dNil, dTup, dNext, dAsg, dLstM, gdName, dDrop, dM, dM0, dIf, dAnd, dOr, dNot, dAndV, dOrV, dNotV, dChain, dFz, dRetF, dRetN, dBreak, dCont, dCB, gdTup, gdCons, gdNil, gdSub, dNeg, dAug, dAugS, dFrz, dPar, dNoPart, dPart, dSlice, dYes, wipeD, i2, d1, d2, d3, startD, List.map_cons, List.map_nil, List.length_cons, List.length_nil, List.cons_append, List.nil_append, List.append_nil, List.getElem?_cons_zero, List.getElem?_cons_succ, List.getElem?_nil, List.replicate, List.set_cons_succ, List.set_cons_zero, Nat.reduceAdd, Nat.reduceSub, Nat.reduceLeDiff, run_eqi, run_nei, run_lt, run_le, run_gt, run_ge, run_addi, run_iaddi, true_and, and_true, Bool.not_eq_true, Bool.not_true, Bool.not_false, if_true, if_false, Bool.false_eq_true, ite_true, ite_false, reduceIte, reduceCtorEq, decide_eq_true_eq, decide_eq_false_iff_not, Option.isSome_some, Option.isSome_none, Bool.true_bne, Bool.false_bne]
        obtain ⟨k, rfl⟩ := Int.eq_ofNat_of_zero_le n0
        refine run_slL rfl (run_slL rfl ?_)
        refine run_add_lst (xs := (L.drop k).map e3) (ys := (L.take k).map e3) (by rw [cut_drop, List.map_drop]; rfl) (by rw [cut_take, List.map_take]; rfl) (le_line ?_) ?_
        · rw [List.length_map, List.length_map, List.length_drop, List.length_take]; omega
        · rw [run_tup (ds := (L.drop k ++ L.take k).map e3) (by rw [List.map_append]; rfl)]
          exact q _ _ (fun p hp => bd p (by
            rcases List.mem_append.mp hp with hp | hp
            · exact List.mem_of_mem_drop hp
            · exact List.mem_of_mem_take hp)) (by rw [List.length_append, List.length_drop, List.length_take]; omega)
      simp only [dSeq, dIfS, dTest, dOp, dName, dC, dRet, dLstF, dCons, dNil, dTup, dNext, dAsg, dLstM, gdName, dDrop, dM, dM0, dIf, dAnd, dOr, dNot, dAndV, dOrV, dNotV, dChain, dFz, dRetF, dRetN, dBreak, dCont, dCB, gdTup, gdCons, gdNil, gdSub, dNeg, dAug, dAugS, dFrz, dPar, dNoPart, dPart, dSlice, dYes, wipeD, i2, d1, d2, d3, startD, List.map_cons, List.map_nil, List.length_cons, List.length_nil, List.cons_append, List.nil_append, List.append_nil, List.getElem?_cons_zero, List.getElem?_cons_succ, List.getElem?_nil, List.replicate, List.set_cons_succ, List.set_cons_zero, Nat.reduceAdd, Nat.reduceSub, Nat.reduceLeDiff, run_eqi, run_nei, run_lt, run_le, run_gt, run_ge, run_addi, run_iaddi, true_and, and_true, Bool.not_eq_true, Bool.not_true, Bool.not_false, if_true, if_false, Bool.false_eq_true, ite_true, ite_false, reduceIte, reduceCtorEq, decide_eq_true_eq, decide_eq_false_iff_not, Option.isSome_some, Option.isSome_none, Bool.true_bne, Bool.false_bne]
      refine run_neE (der_lt (gw_at hap)) (cleans_map clean_e3 _) (fun d hd => by obtain ⟨z, _, rfl⟩ := List.mem_map.mp hd; exact Nat.le_trans (depth_e3 z) (by decide)) ?_
      cases L with
      | nil =>
        simp only [List.isEmpty_nil, List.map_nil, dSeq, dIfS, dTest, dOp, dName, dC, dRet, dLstF, dCons, dNil, dTup, dNext, dAsg, dLstM, gdName, dDrop, dM, dM0, dIf, dAnd, dOr, dNot, dAndV, dOrV, dNotV, dChain, dFz, dRetF, dRetN, dBreak, dCont, dCB, gdTup, gdCons, gdNil, gdSub, dNeg, dAug, dAugS, dFrz, dPar, dNoPart, dPart, dSlice, dYes, wipeD, i2, d1, d2, d3, startD, List.map_cons, List.map_nil, List.length_cons, List.length_nil, List.cons_append, List.nil_append, List.append_nil, List.getElem?_cons_zero, List.getElem?_cons_succ, List.getElem?_nil, List.replicate, List.set_cons_succ, List.set_cons_zero, Nat.reduceAdd, Nat.reduceSub, Nat.reduceLeDiff, run_eqi, run_nei, run_lt, run_le, run_gt, run_ge, run_addi, run_iaddi, true_and, and_true, Bool.not_eq_true, Bool.not_true, Bool.not_false, if_true, if_false, Bool.false_eq_true, ite_true, ite_false, reduceIte, reduceCtorEq, decide_eq_true_eq, decide_eq_false_iff_not, Option.isSome_some, Option.isSome_none, Bool.true_bne, Bool.false_bne]
        exact fin [] _ (by simp) (by simp)
      | cons u L =>
        simp only [List.isEmpty_cons, dSeq, dIfS, dTest, dOp, dName, dC, dRet, dLstF, dCons, dNil, dTup, dNext, dAsg, dLstM, gdName, dDrop, dM, dM0, dIf, dAnd, dOr, dNot, dAndV, dOrV, dNotV, dChain, dFz, dRetF, dRetN, dBreak, dCont, dCB, gdTup, gdCons, gdNil, gdSub, dNeg, dAug, dAugS, dFrz, dPar, dNoPart, dPart, dSlice, dYes, wipeD, i2, d1, d2, d3, startD, List.map_cons, List.map_nil, List.length_cons, List.length_nil, List.cons_append, List.nil_append, List.append_nil, List.getElem?_cons_zero, List.getElem?_cons_succ, List.getElem?_nil, List.replicate, List.set_cons_succ, List.set_cons_zero, Nat.reduceAdd, Nat.reduceSub, Nat.reduceLeDiff, run_eqi, run_nei, run_lt, run_le, run_gt, run_ge, run_addi, run_iaddi, true_and, and_true, Bool.not_eq_true, Bool.not_true, Bool.not_false, if_true, if_false, Bool.false_eq_true, ite_true, ite_false, reduceIte, reduceCtorEq, decide_eq_true_eq, decide_eq_false_iff_not, Option.isSome_some, Option.isSome_none, Bool.true_bne, Bool.false_bne]
        refine gw_take (by decide) hl fun n n0 n1 => ?_
        simp only [dSeq, dIfS, dTest, dOp, dName, dC, dRet, dLstF, dCons, dNil, dTup, dNext, dAsg, dLstM, gdName, dDrop, dM, dM0, dIf, dAnd, dOr, dNot, dAndV, dOrV, dNotV, dChain, dFz, dRetF, dRetN, dBreak, dCont, dCB, gdTup, gdCons, gdNil, gdSub, dNeg, dAug, dAugS, dFrz, dPar, dNoPart, dPart, dSlice, dYes, wipeD, i2, d1, d2, d3, startD, List.map_cons, List.map_nil, List.length_cons, List.length_nil, List.cons_append, List.nil_append, List.append_nil, List.getElem?_cons_zero, List.getElem?_cons_succ, List.getElem?_nil, List.replicate, List.set_cons_succ, List.set_cons_zero, Nat.reduceAdd, Nat.reduceSub, Nat.reduceLeDiff, run_eqi, run_nei, run_lt, run_le, run_gt, run_ge, run_addi, run_iaddi, true_and, and_true, Bool.not_eq_true, Bool.not_true, Bool.not_false, if_true, if_false, Bool.false_eq_true, ite_true, ite_false, reduceIte, reduceCtorEq, decide_eq_true_eq, decide_eq_false_iff_not, Option.isSome_some, Option.isSome_none, Bool.true_bne, Bool.false_bne]
        rw [List.length_cons] at hL
        by_cases c1 : n = 0
        · rw [if_pos c1]
          refine ⟨by simp only [tyD, gw_at hap], run_ixR (gw_at hap) (d := e3 u) (by decide) rfl ((run_app (y := e3 u) (gw_at hap) (small_line (by rw [List.length_cons, List.length_map]; omega)) ?_).2)⟩
          rw [gw_up hap]
          have := fin (u :: L ++ [u]) (c' + 1) (by rw [List.length_append, List.length_singleton, List.length_cons]; omega) (okp_snoc bd (bd u (by simp)))
          rw [List.map_append] at this
          exact this
        · rw [if_neg c1]
          exact fin (u :: L) _ (by rw [List.length_cons]; omega) bd
end M
namespace M
open PySem PySem.Spec PyProof.Rows L2 DL
variable [CA]

def sp_law : DRn := spLaw
abbrev N_law : List Str := ["script", "draw", "turn", "sky", "picture", "found", "looked", "many", "error", "standing", "places", "votes", "x", "y", "size", "one", "other", "late"]
def T_law : DTS :=
    (dSeq (dAsg (dLstM (dCons (dName 0) (dCons (dC (.int 0)) dNil))) (gdName 1))
    (dSeq (dFor (diRange1 (dCons (dC (.int 6)) dNil)) (gdName 2)
    (dSeq (dAsg (dCB sp__law_sky (dCons (dName 1) (dCons (dC (.int 7)) dNil))) (gdName 3))
    (dSeq (dAsg (dCB sp__law_picture (dCons (dName 1) (dCons (dName 3) (dCons (dCB sp__law_pick (dCons (dName 1) (dCons (dMeth CA.Sky "standings" sp_Sky_standings (dName 3) dNil) dNil))) dNil)))) (gdName 4))
    (dSeq (dAsg (dCB sp_voted_reading (dCons (dName 3) (dCons (dName 4) dNil))) (gdTup (gdCons (gdName 5) (gdCons (gdName 6) gdNil)) 2))
    (dSeq (dIfS (dTest (dOp dNe (dName 5) (dCB sp_plain_reading (dCons (dName 3) (dCons (dName 4) dNil)))))
    (dRet (dC (.bl false)))
    dNext)
    (dSeq (dAsg (dTup (dCons (dC (.int 0)) (dCons (dFld CA.Camera "error" (dFld CA.Sky "camera" (dName 3))) dNil))) (gdTup (gdCons (gdName 7) (gdCons (gdName 8) gdNil)) 2))
    (dSeq (dFor (diSeq (dMeth CA.Sky "standings" sp_Sky_standings (dName 3) dNil)) (gdName 9)
    (dSeq (dPar 10 11 (dCons (dMeth CA.Sky "places" sp_Sky_places (dName 3) (dCons (dName 9) dNil)) (dCons (dC (.int 0)) dNil)))
    (dSeq (dFor (diSeq (dName 4)) (gdTup (gdCons (gdName 12) (gdCons (gdName 13) (gdCons (gdName 14) gdNil))) 3)
    (dAug 11 (dCB dInt (dCons (dCB dAny (dCons (dFz (dLc (diSeq (dName 10)) (gdTup (gdCons (gdName 15) (gdCons (gdName 16) (gdCons (gdName 17) gdNil))) 3) dYes (dAndV (dOp dLe (dCB dAbs (dCons (dOp dSub (dName 12) (dName 15)) dNil)) (dName 8)) (dAndV (dOp dLe (dCB dAbs (dCons (dOp dSub (dName 13) (dName 16)) dNil)) (dName 8)) (dOp dEq (dName 14) (dName 17)))) [15, 16, 17])) dNil)) dNil)) dIAdd))
    (dSeq (dIfS (dTest (dOp dNe (dM "dict" dGet2 (dCB sp_votes_for (dCons (dName 3) (dCons (dName 4) (dCons (dOp dIx (dName 9) (dC (.int 0))) dNil)))) (dCons (dSlice dSl (dName 9) (dPart (dC (.int 1))) dNoPart) (dCons (dC (.int 0)) dNil))) (dName 11)))
    (dRet (dC (.bl false)))
    dNext)
    (dAug 7 (dCB dInt (dCons (dOp dGe (dName 11) (dOp dSub (dCB dLen (dCons (dName 4) dNil)) (dFld CA.Camera "false" (dFld CA.Sky "camera" (dName 3))))) dNil)) dIAdd)))))
    (dIfS (dTest (dOp dGt (dName 6) (dName 7)))
    (dRet (dC (.bl false)))
    dNext))))))))
    (dRet (dC (.bl true)))))
theorem len_law : ∀ ds G Q, sp_law ds G Q → ds.length = 1 := fun ds G Q h => by
  match ds, h with
  | [_], _ => rfl
theorem stand_ne {most : Int} {s : Sk} (h : DrS most s) : standL s ≠ [] := by
  obtain ⟨t1, t2, t3, t4⟩ := tu_facts s.tu h.tu
  have a1 := h.a1
  have a2 := h.a2
  intro e
  cases et : s.tu with
  | nil => exact t1 et
  | cons t tu =>
    have : (t, s.ar.1, s.ar.2.2.1) ∈ standL s := by
      unfold standL
      rw [et, List.mem_flatMap]
      exact ⟨t, by simp, by rw [colS_rect]; exact List.mem_map.mpr ⟨(s.ar.1, s.ar.2.2.1), rect_mem.mpr ⟨⟨by dsimp only; omega, by dsimp only; omega⟩, by dsimp only; omega, by dsimp only; omega⟩, rfl⟩⟩
    rw [e] at this
    cases this
theorem stand_inA {s : Sk} {st : Pt} (h : st ∈ standL s) : inA s st.2 := by
  unfold standL at h
  obtain ⟨t, _, h⟩ := List.mem_flatMap.mp h
  rw [colS_rect] at h
  obtain ⟨sh, hs, rfl⟩ := List.mem_map.mp h
  exact rect_mem.mp hs
theorem any_shb {s : Sk} {st p : Pt} : ((placesL s st).any fun q => decide (nearP p q s.cam.er)) = shb s st p := by
  rw [Bool.eq_iff_iff, shb_iff, List.any_eq_true]
  unfold shN placesL
  constructor
  · rintro ⟨q, hq, h⟩
    obtain ⟨c, hc, rfl⟩ := List.mem_map.mp hq
    exact ⟨c, hc, of_decide_eq_true h⟩
  · rintro ⟨c, hc, h⟩
    exact ⟨_, List.mem_map.mpr ⟨c, hc, rfl⟩, decide_eq_true h⟩
theorem ty_eD {α β : Type} {k : α → NestedKey} {f : β → D} {kvs : List (α × β)} {G : DHp} : tyD "dict" (eD k f kvs) G := rfl
theorem run_intb {b : Bool} {G : DHp} {Q : DVK} : dInt [.bl b] G Q = Q (.int (if b then 1 else 0)) G := rfl
theorem run_law : ∀ ds G Q, sp_law ds G Q → T_law { nx := fun _ G' => Q .non G', rt := Q } (startD N_law ds) G := fun ds G Q h => by
  match ds, h with
  | [_], ⟨ns, rfl, hl, hG, q⟩ =>
    simp only [T_law, N_law, dSeq, dIfS, dTest, dOp, dName, dC, dRet, dLstF, dCons, dNil, dTup, dNext, dAsg, dLstM, gdName, dDrop, dM, dM0, dIf, dAnd, dOr, dNot, dAndV, dOrV, dNotV, dChain, dFz, dRetF, dRetN, dBreak, dCont, dCB, gdTup, gdCons, gdNil, gdSub, dNeg, dAug, dAugS, dFrz, dPar, dNoPart, dPart, dSlice, dYes, wipeD, i2, d1, d2, d3, startD, List.map_cons, List.map_nil, List.length_cons, List.length_nil, List.cons_append, List.nil_append, List.append_nil, List.getElem?_cons_zero, List.getElem?_cons_succ, List.getElem?_nil, List.replicate, List.set_cons_succ, List.set_cons_zero, Nat.reduceAdd, Nat.reduceSub, Nat.reduceLeDiff, run_eqi, run_nei, run_lt, run_le, run_gt, run_ge, run_addi, run_iaddi, true_and, and_true, Bool.not_eq_true, Bool.not_true, Bool.not_false, if_true, if_false, Bool.false_eq_true, ite_true, ite_false, reduceIte, reduceCtorEq, decide_eq_true_eq, decide_eq_false_iff_not, Option.isSome_some, Option.isSome_none, Bool.true_bne, Bool.false_bne]
    intro a ha
    rw [show up G a (.lst [.nd .scr (ns.map .int), .int 0]) = Gw G a ns 0 from rfl]
    simp only [dFor, diRange1, dSeq, dIfS, dTest, dOp, dName, dC, dRet, dLstF, dCons, dNil, dTup, dNext, dAsg, dLstM, gdName, dDrop, dM, dM0, dIf, dAnd, dOr, dNot, dAndV, dOrV, dNotV, dChain, dFz, dRetF, dRetN, dBreak, dCont, dCB, gdTup, gdCons, gdNil, gdSub, dNeg, dAug, dAugS, dFrz, dPar, dNoPart, dPart, dSlice, dYes, wipeD, i2, d1, d2, d3, startD, List.map_cons, List.map_nil, List.length_cons, List.length_nil, List.cons_append, List.nil_append, List.append_nil, List.getElem?_cons_zero, List.getElem?_cons_succ, List.getElem?_nil, List.replicate, List.set_cons_succ, List.set_cons_zero, Nat.reduceAdd, Nat.reduceSub, Nat.reduceLeDiff, run_eqi, run_nei, run_lt, run_le, run_gt, run_ge, run_addi, run_iaddi, true_and, and_true, Bool.not_eq_true, Bool.not_true, Bool.not_false, if_true, if_false, Bool.false_eq_true, ite_true, ite_false, reduceIte, reduceCtorEq, decide_eq_true_eq, decide_eq_false_iff_not, Option.isSome_some, Option.isSome_none, Bool.true_bne, Bool.false_bne]
    refine ⟨⟨by decide, by decide⟩, fun i η G' => ∃ x2 x3 x4 x5 x6 x7 x8 x9 x10 x11 x12 x13 x14 c', η = [some (.nd .scr (ns.map .int)), some (.ref a), x2, x3, x4, x5, x6, x7, x8, x9, x10, x11, x12, x13, x14, none, none, none] ∧ G' = Gw G a ns c', ⟨_, _, _, _, _, _, _, _, _, _, _, _, _, _, rfl, rfl⟩, fun _ _ _ _ => trivial, ?_, ?_⟩
    · rintro i d0 η G' hd0 ⟨x2, x3, x4, x5, x6, x7, x8, x9, x10, x11, x12, x13, x14, c', rfl, rfl⟩
      simp only [dSeq, dIfS, dTest, dOp, dName, dC, dRet, dLstF, dCons, dNil, dTup, dNext, dAsg, dLstM, gdName, dDrop, dM, dM0, dIf, dAnd, dOr, dNot, dAndV, dOrV, dNotV, dChain, dFz, dRetF, dRetN, dBreak, dCont, dCB, gdTup, gdCons, gdNil, gdSub, dNeg, dAug, dAugS, dFrz, dPar, dNoPart, dPart, dSlice, dYes, wipeD, i2, d1, d2, d3, startD, List.map_cons, List.map_nil, List.length_cons, List.length_nil, List.cons_append, List.nil_append, List.append_nil, List.getElem?_cons_zero, List.getElem?_cons_succ, List.getElem?_nil, List.replicate, List.set_cons_succ, List.set_cons_zero, Nat.reduceAdd, Nat.reduceSub, Nat.reduceLeDiff, run_eqi, run_nei, run_lt, run_le, run_gt, run_ge, run_addi, run_iaddi, true_and, and_true, Bool.not_eq_true, Bool.not_true, Bool.not_false, if_true, if_false, Bool.false_eq_true, ite_true, ite_false, reduceIte, reduceCtorEq, decide_eq_true_eq, decide_eq_false_iff_not, Option.isSome_some, Option.isSome_none, Bool.true_bne, Bool.false_bne]
      refine ⟨a, ns, c', G, 7, rfl, rfl, hl, by decide, fun s c1 dr => ?_⟩
      have ok := dr.ok
      obtain ⟨m1, m2, m3, m4, m5⟩ := dr.cm
      simp only [dMeth, dSeq, dIfS, dTest, dOp, dName, dC, dRet, dLstF, dCons, dNil, dTup, dNext, dAsg, dLstM, gdName, dDrop, dM, dM0, dIf, dAnd, dOr, dNot, dAndV, dOrV, dNotV, dChain, dFz, dRetF, dRetN, dBreak, dCont, dCB, gdTup, gdCons, gdNil, gdSub, dNeg, dAug, dAugS, dFrz, dPar, dNoPart, dPart, dSlice, dYes, wipeD, i2, d1, d2, d3, startD, List.map_cons, List.map_nil, List.length_cons, List.length_nil, List.cons_append, List.nil_append, List.append_nil, List.getElem?_cons_zero, List.getElem?_cons_succ, List.getElem?_nil, List.replicate, List.set_cons_succ, List.set_cons_zero, Nat.reduceAdd, Nat.reduceSub, Nat.reduceLeDiff, run_eqi, run_nei, run_lt, run_le, run_gt, run_ge, run_addi, run_iaddi, true_and, and_true, Bool.not_eq_true, Bool.not_true, Bool.not_false, if_true, if_false, Bool.false_eq_true, ite_true, ite_false, reduceIte, reduceCtorEq, decide_eq_true_eq, decide_eq_false_iff_not, Option.isSome_some, Option.isSome_none, Bool.true_bne, Bool.false_bne]
      refine ⟨ins_sky (by decide), s, rfl, ok, ?_⟩
      refine ⟨a, ns, c1, G, _, (standL s).map e3, rfl, rfl, hl, .inr rfl, by rw [List.length_map]; exact List.length_pos_iff.mpr (stand_ne dr), fun d hd => ?_⟩
      obtain ⟨st, hst, rfl⟩ := List.mem_map.mp hd
      refine ⟨a, ns, _, G, s, st, rfl, rfl, hl, ok, by omega, by omega, fun pic c2 okp hp => ?_⟩
      simp only [dSeq, dIfS, dTest, dOp, dName, dC, dRet, dLstF, dCons, dNil, dTup, dNext, dAsg, dLstM, gdName, dDrop, dM, dM0, dIf, dAnd, dOr, dNot, dAndV, dOrV, dNotV, dChain, dFz, dRetF, dRetN, dBreak, dCont, dCB, gdTup, gdCons, gdNil, gdSub, dNeg, dAug, dAugS, dFrz, dPar, dNoPart, dPart, dSlice, dYes, wipeD, i2, d1, d2, d3, startD, List.map_cons, List.map_nil, List.length_cons, List.length_nil, List.cons_append, List.nil_append, List.append_nil, List.getElem?_cons_zero, List.getElem?_cons_succ, List.getElem?_nil, List.replicate, List.set_cons_succ, List.set_cons_zero, Nat.reduceAdd, Nat.reduceSub, Nat.reduceLeDiff, run_eqi, run_nei, run_lt, run_le, run_gt, run_ge, run_addi, run_iaddi, true_and, and_true, Bool.not_eq_true, Bool.not_true, Bool.not_false, if_true, if_false, Bool.false_eq_true, ite_true, ite_false, reduceIte, reduceCtorEq, decide_eq_true_eq, decide_eq_false_iff_not, Option.isSome_some, Option.isSome_none, Bool.true_bne, Bool.false_bne]
      refine ⟨s, pic, rfl, ok, okp, by omega, ?_⟩
      simp only [dSeq, dIfS, dTest, dOp, dName, dC, dRet, dLstF, dCons, dNil, dTup, dNext, dAsg, dLstM, gdName, dDrop, dM, dM0, dIf, dAnd, dOr, dNot, dAndV, dOrV, dNotV, dChain, dFz, dRetF, dRetN, dBreak, dCont, dCB, gdTup, gdCons, gdNil, gdSub, dNeg, dAug, dAugS, dFrz, dPar, dNoPart, dPart, dSlice, dYes, wipeD, i2, d1, d2, d3, startD, List.map_cons, List.map_nil, List.length_cons, List.length_nil, List.cons_append, List.nil_append, List.append_nil, List.getElem?_cons_zero, List.getElem?_cons_succ, List.getElem?_nil, List.replicate, List.set_cons_succ, List.set_cons_zero, Nat.reduceAdd, Nat.reduceSub, Nat.reduceLeDiff, run_eqi, run_nei, run_lt, run_le, run_gt, run_ge, run_addi, run_iaddi, true_and, and_true, Bool.not_eq_true, Bool.not_true, Bool.not_false, if_true, if_false, Bool.false_eq_true, ite_true, ite_false, reduceIte, reduceCtorEq, decide_eq_true_eq, decide_eq_false_iff_not, Option.isSome_some, Option.isSome_none, Bool.true_bne, Bool.false_bne]
      refine ⟨s, pic, rfl, ok, okp, by omega, ?_⟩
      simp only [dSeq, dIfS, dTest, dOp, dName, dC, dRet, dLstF, dCons, dNil, dTup, dNext, dAsg, dLstM, gdName, dDrop, dM, dM0, dIf, dAnd, dOr, dNot, dAndV, dOrV, dNotV, dChain, dFz, dRetF, dRetN, dBreak, dCont, dCB, gdTup, gdCons, gdNil, gdSub, dNeg, dAug, dAugS, dFrz, dPar, dNoPart, dPart, dSlice, dYes, wipeD, i2, d1, d2, d3, startD, List.map_cons, List.map_nil, List.length_cons, List.length_nil, List.cons_append, List.nil_append, List.append_nil, List.getElem?_cons_zero, List.getElem?_cons_succ, List.getElem?_nil, List.replicate, List.set_cons_succ, List.set_cons_zero, Nat.reduceAdd, Nat.reduceSub, Nat.reduceLeDiff, run_eqi, run_nei, run_lt, run_le, run_gt, run_ge, run_addi, run_iaddi, true_and, and_true, Bool.not_eq_true, Bool.not_true, Bool.not_false, if_true, if_false, Bool.false_eq_true, ite_true, ite_false, reduceIte, reduceCtorEq, decide_eq_true_eq, decide_eq_false_iff_not, Option.isSome_some, Option.isSome_none, Bool.true_bne, Bool.false_bne]
      refine run_ne (clean_eT clean_e3 _) (clean_eT clean_e3 _) (Nat.le_trans (depth_eT depth_e3 _) (by decide)) (Nat.le_trans (depth_eT depth_e3 _) (by decide)) false (by simp) ?_
      simp only [dFld, fl_camera, fl_error, diSeq, dMeth, dSeq, dIfS, dTest, dOp, dName, dC, dRet, dLstF, dCons, dNil, dTup, dNext, dAsg, dLstM, gdName, dDrop, dM, dM0, dIf, dAnd, dOr, dNot, dAndV, dOrV, dNotV, dChain, dFz, dRetF, dRetN, dBreak, dCont, dCB, gdTup, gdCons, gdNil, gdSub, dNeg, dAug, dAugS, dFrz, dPar, dNoPart, dPart, dSlice, dYes, wipeD, i2, d1, d2, d3, startD, List.map_cons, List.map_nil, List.length_cons, List.length_nil, List.cons_append, List.nil_append, List.append_nil, List.getElem?_cons_zero, List.getElem?_cons_succ, List.getElem?_nil, List.replicate, List.set_cons_succ, List.set_cons_zero, Nat.reduceAdd, Nat.reduceSub, Nat.reduceLeDiff, run_eqi, run_nei, run_lt, run_le, run_gt, run_ge, run_addi, run_iaddi, true_and, and_true, Bool.not_eq_true, Bool.not_true, Bool.not_false, if_true, if_false, Bool.false_eq_true, ite_true, ite_false, reduceIte, reduceCtorEq, decide_eq_true_eq, decide_eq_false_iff_not, Option.isSome_some, Option.isSome_none, Bool.true_bne, Bool.false_bne]
      refine ⟨ins_sky (by decide), s, rfl, ok, ?_⟩
      unfold eT
      dsimp only
      refine ⟨fun i η G' => ∃ x9 x10 x11 x12 x13 x14, η = [some (.nd .scr (ns.map .int)), some (.ref a), some d0, some (sD s), some (eT e3 pic), some (eT e3 (readL s pic)), some (.int (lookL s pic).length), some (.int (((standL s).take i).filter (lookB s pic)).length), some (.int s.cam.er), x9, x10, x11, x12, x13, x14, none, none, none] ∧ G' = Gw G a ns c2, ⟨_, _, _, _, _, _, rfl, rfl⟩, fun _ _ _ _ => trivial, ?_, ?_⟩
      · rintro i d η G' hd ⟨x9, x10, x11, x12, x13, x14, rfl, rfl⟩
        obtain ⟨st, hst, rfl⟩ := get_map hd
        have hsm := List.mem_of_getElem? hst
        simp only [dMeth, dSeq, dIfS, dTest, dOp, dName, dC, dRet, dLstF, dCons, dNil, dTup, dNext, dAsg, dLstM, gdName, dDrop, dM, dM0, dIf, dAnd, dOr, dNot, dAndV, dOrV, dNotV, dChain, dFz, dRetF, dRetN, dBreak, dCont, dCB, gdTup, gdCons, gdNil, gdSub, dNeg, dAug, dAugS, dFrz, dPar, dNoPart, dPart, dSlice, dYes, wipeD, i2, d1, d2, d3, startD, List.map_cons, List.map_nil, List.length_cons, List.length_nil, List.cons_append, List.nil_append, List.append_nil, List.getElem?_cons_zero, List.getElem?_cons_succ, List.getElem?_nil, List.replicate, List.set_cons_succ, List.set_cons_zero, Nat.reduceAdd, Nat.reduceSub, Nat.reduceLeDiff, run_eqi, run_nei, run_lt, run_le, run_gt, run_ge, run_addi, run_iaddi, true_and, and_true, Bool.not_eq_true, Bool.not_true, Bool.not_false, if_true, if_false, Bool.false_eq_true, ite_true, ite_false, reduceIte, reduceCtorEq, decide_eq_true_eq, decide_eq_false_iff_not, Option.isSome_some, Option.isSome_none, Bool.true_bne, Bool.false_bne]
        refine ⟨ins_sky (by decide), s, st, rfl, ok.cs, ?_⟩
        simp only [diSeq, eT, dSeq, dIfS, dTest, dOp, dName, dC, dRet, dLstF, dCons, dNil, dTup, dNext, dAsg, dLstM, gdName, dDrop, dM, dM0, dIf, dAnd, dOr, dNot, dAndV, dOrV, dNotV, dChain, dFz, dRetF, dRetN, dBreak, dCont, dCB, gdTup, gdCons, gdNil, gdSub, dNeg, dAug, dAugS, dFrz, dPar, dNoPart, dPart, dSlice, dYes, wipeD, i2, d1, d2, d3, startD, List.map_cons, List.map_nil, List.length_cons, List.length_nil, List.cons_append, List.nil_append, List.append_nil, List.getElem?_cons_zero, List.getElem?_cons_succ, List.getElem?_nil, List.replicate, List.set_cons_succ, List.set_cons_zero, Nat.reduceAdd, Nat.reduceSub, Nat.reduceLeDiff, run_eqi, run_nei, run_lt, run_le, run_gt, run_ge, run_addi, run_iaddi, true_and, and_true, Bool.not_eq_true, Bool.not_true, Bool.not_false, if_true, if_false, Bool.false_eq_true, ite_true, ite_false, reduceIte, reduceCtorEq, decide_eq_true_eq, decide_eq_false_iff_not, Option.isSome_some, Option.isSome_none, Bool.true_bne, Bool.false_bne]
        refine ⟨fun j η G' => ∃ x12 x13 x14, η = [some (.nd .scr (ns.map .int)), some (.ref a), some d0, some (sD s), some (eT e3 pic), some (eT e3 (readL s pic)), some (.int (lookL s pic).length), some (.int (((standL s).take i).filter (lookB s pic)).length), some (.int s.cam.er), some (e3 st), some (eL e3 (placesL s st)), some (.int ((pic.take j).countP (shb s st) : Nat)), x12, x13, x14, none, none, none] ∧ G' = Gw G a ns c2, ⟨x12, x13, x14, rfl, rfl⟩, fun _ _ _ _ => trivial, ?_, ?_⟩
        · rintro j d η G' hd ⟨x12, x13, x14, rfl, rfl⟩
          obtain ⟨p, hp, rfl⟩ := get_map hd
          simp only [e3, dSeq, dIfS, dTest, dOp, dName, dC, dRet, dLstF, dCons, dNil, dTup, dNext, dAsg, dLstM, gdName, dDrop, dM, dM0, dIf, dAnd, dOr, dNot, dAndV, dOrV, dNotV, dChain, dFz, dRetF, dRetN, dBreak, dCont, dCB, gdTup, gdCons, gdNil, gdSub, dNeg, dAug, dAugS, dFrz, dPar, dNoPart, dPart, dSlice, dYes, wipeD, i2, d1, d2, d3, startD, List.map_cons, List.map_nil, List.length_cons, List.length_nil, List.cons_append, List.nil_append, List.append_nil, List.getElem?_cons_zero, List.getElem?_cons_succ, List.getElem?_nil, List.replicate, List.set_cons_succ, List.set_cons_zero, Nat.reduceAdd, Nat.reduceSub, Nat.reduceLeDiff, run_eqi, run_nei, run_lt, run_le, run_gt, run_ge, run_addi, run_iaddi, true_and, and_true, Bool.not_eq_true, Bool.not_true, Bool.not_false, if_true, if_false, Bool.false_eq_true, ite_true, ite_false, reduceIte, reduceCtorEq, decide_eq_true_eq, decide_eq_false_iff_not, Option.isSome_some, Option.isSome_none, Bool.true_bne, Bool.false_bne]
          refine lc_map (xs := placesL s st) (f := e3) (fun q => .bl (decide (nearP p q s.cam.er))) (by rw [pl_len]; have := ok.cs; omega) (fun R r => by simp only [diSeq, eL, dSeq, dIfS, dTest, dOp, dName, dC, dRet, dLstF, dCons, dNil, dTup, dNext, dAsg, dLstM, gdName, dDrop, dM, dM0, dIf, dAnd, dOr, dNot, dAndV, dOrV, dNotV, dChain, dFz, dRetF, dRetN, dBreak, dCont, dCB, gdTup, gdCons, gdNil, gdSub, dNeg, dAug, dAugS, dFrz, dPar, dNoPart, dPart, dSlice, dYes, wipeD, i2, d1, d2, d3, startD, List.map_cons, List.map_nil, List.length_cons, List.length_nil, List.cons_append, List.nil_append, List.append_nil, List.getElem?_cons_zero, List.getElem?_cons_succ, List.getElem?_nil, List.replicate, List.set_cons_succ, List.set_cons_zero, Nat.reduceAdd, Nat.reduceSub, Nat.reduceLeDiff, run_eqi, run_nei, run_lt, run_le, run_gt, run_ge, run_addi, run_iaddi, true_and, and_true, Bool.not_eq_true, Bool.not_true, Bool.not_false, if_true, if_false, Bool.false_eq_true, ite_true, ite_false, reduceIte, reduceCtorEq, decide_eq_true_eq, decide_eq_false_iff_not, Option.isSome_some, Option.isSome_none, Bool.true_bne, Bool.false_bne]; exact r) (fun q hq G1 A k => ?_) fun w hw => ?_
          · simp only [e3, run_abs, dSeq, dIfS, dTest, dOp, dName, dC, dRet, dLstF, dCons, dNil, dTup, dNext, dAsg, dLstM, gdName, dDrop, dM, dM0, dIf, dAnd, dOr, dNot, dAndV, dOrV, dNotV, dChain, dFz, dRetF, dRetN, dBreak, dCont, dCB, gdTup, gdCons, gdNil, gdSub, dNeg, dAug, dAugS, dFrz, dPar, dNoPart, dPart, dSlice, dYes, wipeD, i2, d1, d2, d3, startD, List.map_cons, List.map_nil, List.length_cons, List.length_nil, List.cons_append, List.nil_append, List.append_nil, List.getElem?_cons_zero, List.getElem?_cons_succ, List.getElem?_nil, List.replicate, List.set_cons_succ, List.set_cons_zero, Nat.reduceAdd, Nat.reduceSub, Nat.reduceLeDiff, run_eqi, run_nei, run_lt, run_le, run_gt, run_ge, run_addi, run_iaddi, true_and, and_true, Bool.not_eq_true, Bool.not_true, Bool.not_false, if_true, if_false, Bool.false_eq_true, ite_true, ite_false, reduceIte, reduceCtorEq, decide_eq_true_eq, decide_eq_false_iff_not, Option.isSome_some, Option.isSome_none, Bool.true_bne, Bool.false_bne]
            by_cases h1 : ab (p.1 - q.1) ≤ s.cam.er
            · rw [if_pos h1]
              by_cases h2 : ab (p.2.1 - q.2.1) ≤ s.cam.er
              · rw [if_pos h2]
                rw [dec_bl (p := nearP p q s.cam.er) (b := decide (p.2.2 = q.2.2)) (by rw [decide_eq_true_eq]; exact ⟨fun z => ⟨z, h1, h2⟩, fun z => z.1⟩)] at k
                exact k
              · rw [if_neg h2]
                rw [decide_eq_false (fun z : nearP p q s.cam.er => h2 z.2.2)] at k
                exact k
            · rw [if_neg h1]
              rw [decide_eq_false (fun z : nearP p q s.cam.er => h1 z.2.1)] at k
              exact k
          · simp only [up_same, dl_up hw, DO.tree, dSeq, dIfS, dTest, dOp, dName, dC, dRet, dLstF, dCons, dNil, dTup, dNext, dAsg, dLstM, gdName, dDrop, dM, dM0, dIf, dAnd, dOr, dNot, dAndV, dOrV, dNotV, dChain, dFz, dRetF, dRetN, dBreak, dCont, dCB, gdTup, gdCons, gdNil, gdSub, dNeg, dAug, dAugS, dFrz, dPar, dNoPart, dPart, dSlice, dYes, wipeD, i2, d1, d2, d3, startD, List.map_cons, List.map_nil, List.length_cons, List.length_nil, List.cons_append, List.nil_append, List.append_nil, List.getElem?_cons_zero, List.getElem?_cons_succ, List.getElem?_nil, List.replicate, List.set_cons_succ, List.set_cons_zero, Nat.reduceAdd, Nat.reduceSub, Nat.reduceLeDiff, run_eqi, run_nei, run_lt, run_le, run_gt, run_ge, run_addi, run_iaddi, true_and, and_true, Bool.not_eq_true, Bool.not_true, Bool.not_false, if_true, if_false, Bool.false_eq_true, ite_true, ite_false, reduceIte, reduceCtorEq, decide_eq_true_eq, decide_eq_false_iff_not, Option.isSome_some, Option.isSome_none, Bool.true_bne, Bool.false_bne]
            refine run_any ?_
            rw [any_shb, run_intb]
            simp only [dSeq, dIfS, dTest, dOp, dName, dC, dRet, dLstF, dCons, dNil, dTup, dNext, dAsg, dLstM, gdName, dDrop, dM, dM0, dIf, dAnd, dOr, dNot, dAndV, dOrV, dNotV, dChain, dFz, dRetF, dRetN, dBreak, dCont, dCB, gdTup, gdCons, gdNil, gdSub, dNeg, dAug, dAugS, dFrz, dPar, dNoPart, dPart, dSlice, dYes, wipeD, i2, d1, d2, d3, startD, List.map_cons, List.map_nil, List.length_cons, List.length_nil, List.cons_append, List.nil_append, List.append_nil, List.getElem?_cons_zero, List.getElem?_cons_succ, List.getElem?_nil, List.replicate, List.set_cons_succ, List.set_cons_zero, Nat.reduceAdd, Nat.reduceSub, Nat.reduceLeDiff, run_eqi, run_nei, run_lt, run_le, run_gt, run_ge, run_addi, run_iaddi, true_and, and_true, Bool.not_eq_true, Bool.not_true, Bool.not_false, if_true, if_false, Bool.false_eq_true, ite_true, ite_false, reduceIte, reduceCtorEq, decide_eq_true_eq, decide_eq_false_iff_not, Option.isSome_some, Option.isSome_none, Bool.true_bne, Bool.false_bne]
            refine ⟨_, (by repeat (first | exact Le.nil | apply Le.keep | apply Le.drop)), some (.int p.1), some (.int p.2.1), some (.int p.2.2), ?_, rfl⟩
            rw [take_sn hp, List.countP_append, List.countP_singleton]
            cases shb s st p <;> rfl
        · rintro η G' ⟨x12, x13, x14, rfl, rfl⟩
          rw [List.length_map, List.take_length]
          simp only [dSeq, dIfS, dTest, dOp, dName, dC, dRet, dLstF, dCons, dNil, dTup, dNext, dAsg, dLstM, gdName, dDrop, dM, dM0, dIf, dAnd, dOr, dNot, dAndV, dOrV, dNotV, dChain, dFz, dRetF, dRetN, dBreak, dCont, dCB, gdTup, gdCons, gdNil, gdSub, dNeg, dAug, dAugS, dFrz, dPar, dNoPart, dPart, dSlice, dYes, wipeD, i2, d1, d2, d3, startD, List.map_cons, List.map_nil, List.length_cons, List.length_nil, List.cons_append, List.nil_append, List.append_nil, List.getElem?_cons_zero, List.getElem?_cons_succ, List.getElem?_nil, List.replicate, List.set_cons_succ, List.set_cons_zero, Nat.reduceAdd, Nat.reduceSub, Nat.reduceLeDiff, run_eqi, run_nei, run_lt, run_le, run_gt, run_ge, run_addi, run_iaddi, true_and, and_true, Bool.not_eq_true, Bool.not_true, Bool.not_false, if_true, if_false, Bool.false_eq_true, ite_true, ite_false, reduceIte, reduceCtorEq, decide_eq_true_eq, decide_eq_false_iff_not, Option.isSome_some, Option.isSome_none, Bool.true_bne, Bool.false_bne]
          refine ix3_0 ⟨s, pic, st.1, rfl, ok, okp, fun kvs vo => ?_⟩
          have hv : (aget kvs st.2).getD 0 = (vts s pic st : Nat) := by
            rw [vo.at_, vtsA_at (stand_inA hsm)]
            unfold cntO
            show (if vts s pic st = 0 then none else some ((vts s pic st : Nat) : Int)).getD 0 = _
            split
            · rename_i e; rw [e]; rfl
            · rfl
          refine ⟨ty_eD, ?_⟩
          refine (run_getI (x := eD k2 .int kvs) tk2 (a := st.2) (kvs := kvs) (z := 0) (dicN_eD _ _ _ _) ty_eD ?_).2
          rw [hv]
          simp only [run_len_eT, dFld, fl_camera, fl_false, dSeq, dIfS, dTest, dOp, dName, dC, dRet, dLstF, dCons, dNil, dTup, dNext, dAsg, dLstM, gdName, dDrop, dM, dM0, dIf, dAnd, dOr, dNot, dAndV, dOrV, dNotV, dChain, dFz, dRetF, dRetN, dBreak, dCont, dCB, gdTup, gdCons, gdNil, gdSub, dNeg, dAug, dAugS, dFrz, dPar, dNoPart, dPart, dSlice, dYes, wipeD, i2, d1, d2, d3, startD, List.map_cons, List.map_nil, List.length_cons, List.length_nil, List.cons_append, List.nil_append, List.append_nil, List.getElem?_cons_zero, List.getElem?_cons_succ, List.getElem?_nil, List.replicate, List.set_cons_succ, List.set_cons_zero, Nat.reduceAdd, Nat.reduceSub, Nat.reduceLeDiff, run_eqi, run_nei, run_lt, run_le, run_gt, run_ge, run_addi, run_iaddi, true_and, and_true, Bool.not_eq_true, Bool.not_true, Bool.not_false, if_true, if_false, Bool.false_eq_true, ite_true, ite_false, reduceIte, reduceCtorEq, decide_eq_true_eq, decide_eq_false_iff_not, Option.isSome_some, Option.isSome_none, Bool.true_bne, Bool.false_bne]
          have e3' : ((pic.countP (shb s st) : Nat) : Int) = (vts s pic st : Nat) := rfl
          rw [e3']
          simp only [dSeq, dIfS, dTest, dOp, dName, dC, dRet, dLstF, dCons, dNil, dTup, dNext, dAsg, dLstM, gdName, dDrop, dM, dM0, dIf, dAnd, dOr, dNot, dAndV, dOrV, dNotV, dChain, dFz, dRetF, dRetN, dBreak, dCont, dCB, gdTup, gdCons, gdNil, gdSub, dNeg, dAug, dAugS, dFrz, dPar, dNoPart, dPart, dSlice, dYes, wipeD, i2, d1, d2, d3, startD, List.map_cons, List.map_nil, List.length_cons, List.length_nil, List.cons_append, List.nil_append, List.append_nil, List.getElem?_cons_zero, List.getElem?_cons_succ, List.getElem?_nil, List.replicate, List.set_cons_succ, List.set_cons_zero, Nat.reduceAdd, Nat.reduceSub, Nat.reduceLeDiff, run_eqi, run_nei, run_lt, run_le, run_gt, run_ge, run_addi, run_iaddi, true_and, and_true, Bool.not_eq_true, Bool.not_true, Bool.not_false, if_true, if_false, Bool.false_eq_true, ite_true, ite_false, reduceIte, reduceCtorEq, decide_eq_true_eq, decide_eq_false_iff_not, Option.isSome_some, Option.isSome_none, Bool.true_bne, Bool.false_bne]
          rw [run_intb]
          simp only [dSeq, dIfS, dTest, dOp, dName, dC, dRet, dLstF, dCons, dNil, dTup, dNext, dAsg, dLstM, gdName, dDrop, dM, dM0, dIf, dAnd, dOr, dNot, dAndV, dOrV, dNotV, dChain, dFz, dRetF, dRetN, dBreak, dCont, dCB, gdTup, gdCons, gdNil, gdSub, dNeg, dAug, dAugS, dFrz, dPar, dNoPart, dPart, dSlice, dYes, wipeD, i2, d1, d2, d3, startD, List.map_cons, List.map_nil, List.length_cons, List.length_nil, List.cons_append, List.nil_append, List.append_nil, List.getElem?_cons_zero, List.getElem?_cons_succ, List.getElem?_nil, List.replicate, List.set_cons_succ, List.set_cons_zero, Nat.reduceAdd, Nat.reduceSub, Nat.reduceLeDiff, run_eqi, run_nei, run_lt, run_le, run_gt, run_ge, run_addi, run_iaddi, true_and, and_true, Bool.not_eq_true, Bool.not_true, Bool.not_false, if_true, if_false, Bool.false_eq_true, ite_true, ite_false, reduceIte, reduceCtorEq, decide_eq_true_eq, decide_eq_false_iff_not, Option.isSome_some, Option.isSome_none, Bool.true_bne, Bool.false_bne]
          refine ⟨_, (by repeat (first | exact Le.nil | apply Le.keep | apply Le.drop)), some (e3 st), some (eL e3 (placesL s st)), some (.int (vts s pic st : Nat)), x12, x13, x14, ?_, rfl⟩
          rw [take_sn hst, List.filter_append, List.length_append]
          have e4 : (List.filter (lookB s pic) [st]).length = if lookB s pic st = true then 1 else 0 := by
            cases e : lookB s pic st <;> simp [e]
          rw [e4]
          have e5 : lookB s pic st = decide ((pic.length : Int) - s.cam.fa ≤ vts s pic st) := rfl
          rw [e5]
          by_cases h : (pic.length : Int) - s.cam.fa ≤ vts s pic st
          · simp only [h, decide_true, if_true]
            rfl
          · simp only [h, decide_false, if_false, Bool.false_eq_true]
            rfl
      · rintro η G' ⟨x9, x10, x11, x12, x13, x14, rfl, rfl⟩
        rw [List.length_map, List.take_length]
        simp only [dSeq, dIfS, dTest, dOp, dName, dC, dRet, dLstF, dCons, dNil, dTup, dNext, dAsg, dLstM, gdName, dDrop, dM, dM0, dIf, dAnd, dOr, dNot, dAndV, dOrV, dNotV, dChain, dFz, dRetF, dRetN, dBreak, dCont, dCB, gdTup, gdCons, gdNil, gdSub, dNeg, dAug, dAugS, dFrz, dPar, dNoPart, dPart, dSlice, dYes, wipeD, i2, d1, d2, d3, startD, List.map_cons, List.map_nil, List.length_cons, List.length_nil, List.cons_append, List.nil_append, List.append_nil, List.getElem?_cons_zero, List.getElem?_cons_succ, List.getElem?_nil, List.replicate, List.set_cons_succ, List.set_cons_zero, Nat.reduceAdd, Nat.reduceSub, Nat.reduceLeDiff, run_eqi, run_nei, run_lt, run_le, run_gt, run_ge, run_addi, run_iaddi, true_and, and_true, Bool.not_eq_true, Bool.not_true, Bool.not_false, if_true, if_false, Bool.false_eq_true, ite_true, ite_false, reduceIte, reduceCtorEq, decide_eq_true_eq, decide_eq_false_iff_not, Option.isSome_some, Option.isSome_none, Bool.true_bne, Bool.false_bne]
        rw [if_neg (by show ¬ ((standL s).filter (lookB s pic)).length < ((lookL s pic).length : Int); exact Int.lt_irrefl _)]
        exact ⟨_, (by repeat (first | exact Le.nil | apply Le.keep | apply Le.drop)), _, _, _, _, _, _, _, _, _, _, _, _, _, _, rfl, rfl⟩
    · rintro η G' ⟨x2, x3, x4, x5, x6, x7, x8, x9, x10, x11, x12, x13, x14, c', rfl, rfl⟩
      exact q _
end M
namespace M
open PySem PySem.Spec PyProof.Rows L2 DL
variable [CA]
def top (i : Nat) : Stmt := PySem.Challenge.pw_moonfall_k62_whole_votes.main.body.getD i (.Pass ⟨0, 0, 0, 0⟩)
abbrev s__law_number : Stmt := top 38
theorem sc__law_number : FnScope N__law_number ["script", "index"] (defScope s__law_number) := ⟨rfl, rfl, rfl, by decide +kernel, rfl, by decide +kernel, by decide +kernel⟩
abbrev s__law_take : Stmt := top 39
theorem sc__law_take : FnScope N__law_take ["draw", "many"] (defScope s__law_take) := ⟨rfl, rfl, rfl, by decide +kernel, rfl, by decide +kernel, by decide +kernel⟩
abbrev s__law_pick : Stmt := top 40
theorem sc__law_pick : FnScope N__law_pick ["draw", "items"] (defScope s__law_pick) := ⟨rfl, rfl, rfl, by decide +kernel, rfl, by decide +kernel, by decide +kernel⟩
abbrev s_is_whole : Stmt := top 13
theorem sc_is_whole : FnScope N_is_whole ["thing", "low", "high"] (defScope s_is_whole) := ⟨rfl, rfl, rfl, by decide +kernel, rfl, by decide +kernel, by decide +kernel⟩
abbrev s_is_point : Stmt := top 14
theorem sc_is_point : FnScope N_is_point ["thing", "low", "high"] (defScope s_is_point) := ⟨rfl, rfl, rfl, by decide +kernel, rfl, by decide +kernel, by decide +kernel⟩
abbrev s_turned : Stmt := top 15
theorem sc_turned : FnScope N_turned ["x", "y", "turn"] (defScope s_turned) := ⟨rfl, rfl, rfl, by decide +kernel, rfl, by decide +kernel, by decide +kernel⟩
abbrev s_Ground___init__ : Stmt := inClass (top 16) 0
theorem sc_Ground___init__ : FnScope N_Ground___init__ ["self", "craters"] (defScope s_Ground___init__) := ⟨rfl, rfl, rfl, by decide +kernel, rfl, by decide +kernel, by decide +kernel⟩
abbrev s_Camera___init__ : Stmt := inClass (top 17) 0
theorem sc_Camera___init__ : FnScope N_Camera___init__ ["self", "width", "height", "error", "false", "lost"] (defScope s_Camera___init__) := ⟨rfl, rfl, rfl, by decide +kernel, rfl, by decide +kernel, by decide +kernel⟩
abbrev s_Sky___init__ : Stmt := inClass (top 18) 0
theorem sc_Sky___init__ : FnScope N_Sky___init__ ["self", "ground", "camera", "turns", "area"] (defScope s_Sky___init__) := ⟨rfl, rfl, rfl, by decide +kernel, rfl, by decide +kernel, by decide +kernel⟩
abbrev s_Camera_is_within : Stmt := inClass (top 17) 3
theorem sc_Camera_is_within : FnScope N_Camera_is_within ["self", "x", "y", "more"] (defScope s_Camera_is_within) := ⟨rfl, rfl, rfl, by decide +kernel, rfl, by decide +kernel, by decide +kernel⟩
abbrev s_Camera_is_sure : Stmt := inClass (top 17) 4
theorem sc_Camera_is_sure : FnScope N_Camera_is_sure ["self", "x", "y"] (defScope s_Camera_is_sure) := ⟨rfl, rfl, rfl, by decide +kernel, rfl, by decide +kernel, by decide +kernel⟩
abbrev s_Camera_check_picture : Stmt := inClass (top 17) 6
theorem sc_Camera_check_picture : FnScope N_Camera_check_picture ["self", "picture"] (defScope s_Camera_check_picture) := ⟨rfl, rfl, rfl, by decide +kernel, rfl, by decide +kernel, by decide +kernel⟩
abbrev s_Sky_standings : Stmt := inClass (top 18) 4
theorem sc_Sky_standings : FnScope N_Sky_standings ["self"] (defScope s_Sky_standings) := ⟨rfl, rfl, rfl, by decide +kernel, rfl, by decide +kernel, by decide +kernel⟩
abbrev s_Sky_place : Stmt := inClass (top 18) 5
theorem sc_Sky_place : FnScope N_Sky_place ["self", "crater", "standing"] (defScope s_Sky_place) := ⟨rfl, rfl, rfl, by decide +kernel, rfl, by decide +kernel, by decide +kernel⟩
abbrev s_Sky_places : Stmt := inClass (top 18) 6
theorem sc_Sky_places : FnScope N_Sky_places ["self", "standing"] (defScope s_Sky_places) := ⟨rfl, rfl, rfl, by decide +kernel, rfl, by decide +kernel, by decide +kernel⟩
abbrev s_Sky_sure_craters : Stmt := inClass (top 18) 7
theorem sc_Sky_sure_craters : FnScope N_Sky_sure_craters ["self", "standing"] (defScope s_Sky_sure_craters) := ⟨rfl, rfl, rfl, by decide +kernel, rfl, by decide +kernel, by decide +kernel⟩
abbrev s_along : Stmt := top 21
theorem sc_along : FnScope N_along ["comers", "last", "pairs"] (defScope s_along) := ⟨rfl, rfl, rfl, by decide +kernel, rfl, by decide +kernel, by decide +kernel⟩
abbrev s_augmented : Stmt := top 20
theorem sc_augmented : FnScope N_augmented ["nexts", "one", "pairs"] (defScope s_augmented) := ⟨rfl, rfl, rfl, by decide +kernel, rfl, by decide +kernel, by decide +kernel⟩
abbrev s_greatest : Stmt := top 22
theorem sc_greatest : FnScope N_greatest ["nexts"] (defScope s_greatest) := ⟨rfl, rfl, rfl, by decide +kernel, rfl, by decide +kernel, by decide +kernel⟩
abbrev s_short_lot : Stmt := top 23
theorem sc_short_lot : FnScope N_short_lot ["nexts", "matching"] (defScope s_short_lot) := ⟨rfl, rfl, rfl, by decide +kernel, rfl, by decide +kernel, by decide +kernel⟩
abbrev s_turned_round : Stmt := top 24
theorem sc_turned_round : FnScope N_turned_round ["nexts", "many"] (defScope s_turned_round) := ⟨rfl, rfl, rfl, by decide +kernel, rfl, by decide +kernel, by decide +kernel⟩
abbrev s_are_near : Stmt := top 26
theorem sc_are_near : FnScope N_are_near ["point", "place", "error"] (defScope s_are_near) := ⟨rfl, rfl, rfl, by decide +kernel, rfl, by decide +kernel, by decide +kernel⟩
abbrev s_nexts_of : Stmt := top 27
theorem sc_nexts_of : FnScope N_nexts_of ["sky", "picture", "standing"] (defScope s_nexts_of) := ⟨rfl, rfl, rfl, by decide +kernel, rfl, by decide +kernel, by decide +kernel⟩
abbrev s_sure_nexts : Stmt := top 28
theorem sc_sure_nexts : FnScope N_sure_nexts ["sky", "picture", "standing"] (defScope s_sure_nexts) := ⟨rfl, rfl, rfl, by decide +kernel, rfl, by decide +kernel, by decide +kernel⟩
abbrev s_against : Stmt := top 30
theorem sc_against : FnScope N_against ["sky", "picture", "standing"] (defScope s_against) := ⟨rfl, rfl, rfl, by decide +kernel, rfl, by decide +kernel, by decide +kernel⟩
abbrev s_fits : Stmt := top 29
theorem sc_fits : FnScope N_fits ["sky", "picture", "standing"] (defScope s_fits) := ⟨rfl, rfl, rfl, by decide +kernel, rfl, by decide +kernel, by decide +kernel⟩
abbrev s_plain_reading : Stmt := top 32
theorem sc_plain_reading : FnScope N_plain_reading ["sky", "picture"] (defScope s_plain_reading) := ⟨rfl, rfl, rfl, by decide +kernel, rfl, by decide +kernel, by decide +kernel⟩
abbrev s_shifts_of : Stmt := top 34
theorem sc_shifts_of : FnScope N_shifts_of ["sky", "point", "turn"] (defScope s_shifts_of) := ⟨rfl, rfl, rfl, by decide +kernel, rfl, by decide +kernel, by decide +kernel⟩
abbrev s_votes_for : Stmt := top 35
theorem sc_votes_for : FnScope N_votes_for ["sky", "picture", "turn"] (defScope s_votes_for) := ⟨rfl, rfl, rfl, by decide +kernel, rfl, by decide +kernel, by decide +kernel⟩
abbrev s_voted_reading : Stmt := top 36
theorem sc_voted_reading : FnScope N_voted_reading ["sky", "picture"] (defScope s_voted_reading) := ⟨rfl, rfl, rfl, by decide +kernel, rfl, by decide +kernel, by decide +kernel⟩
abbrev s__law_ground : Stmt := top 41
theorem sc__law_ground : FnScope N__law_ground ["draw", "most", "side"] (defScope s__law_ground) := ⟨rfl, rfl, rfl, by decide +kernel, rfl, by decide +kernel, by decide +kernel⟩
abbrev s__law_camera : Stmt := top 42
theorem sc__law_camera : FnScope N__law_camera ["draw"] (defScope s__law_camera) := ⟨rfl, rfl, rfl, by decide +kernel, rfl, by decide +kernel, by decide +kernel⟩
abbrev s__law_sky : Stmt := top 43
theorem sc__law_sky : FnScope N__law_sky ["draw", "most"] (defScope s__law_sky) := ⟨rfl, rfl, rfl, by decide +kernel, rfl, by decide +kernel, by decide +kernel⟩
abbrev s__law_spots : Stmt := top 44
theorem sc__law_spots : FnScope N__law_spots ["camera"] (defScope s__law_spots) := ⟨rfl, rfl, rfl, by decide +kernel, rfl, by decide +kernel, by decide +kernel⟩
abbrev s__law_picture : Stmt := top 45
theorem sc__law_picture : FnScope N__law_picture ["draw", "sky", "standing"] (defScope s__law_picture) := ⟨rfl, rfl, rfl, by decide +kernel, rfl, by decide +kernel, by decide +kernel⟩
abbrev s_law : Stmt := top 48
theorem sc_law : FnScope N_law ["script"] (defScope s_law) := ⟨rfl, rfl, rfl, by decide +kernel, rfl, by decide +kernel, by decide +kernel⟩
theorem bt_len : bootBuiltins ("len" : Str) = some (.builtin "len") := by first | rfl | decide +kernel
theorem bt_int : bootBuiltins ("int" : Str) = some (.type "int") := by first | rfl | decide +kernel
theorem bt_range : bootBuiltins ("range" : Str) = some (.type "range") := by first | rfl | decide +kernel
theorem bt_bool : bootBuiltins ("bool" : Str) = some (.type "bool") := by first | rfl | decide +kernel
theorem bt_isinstance : bootBuiltins ("isinstance" : Str) = some (.builtin "isinstance") := by first | rfl | decide +kernel
theorem bt_tuple : bootBuiltins ("tuple" : Str) = some (.type "tuple") := by first | rfl | decide +kernel
theorem bt_enumerate : bootBuiltins ("enumerate" : Str) = some (.type "enumerate") := by first | rfl | decide +kernel
theorem bt_sorted : bootBuiltins ("sorted" : Str) = some (.builtin "sorted") := by first | rfl | decide +kernel
theorem bt_all : bootBuiltins ("all" : Str) = some (.builtin "all") := by first | rfl | decide +kernel
theorem bt_zip : bootBuiltins ("zip" : Str) = some (.type "zip") := by first | rfl | decide +kernel
theorem bt_dict : bootBuiltins ("dict" : Str) = some (.type "dict") := by first | rfl | decide +kernel
theorem bt_list : bootBuiltins ("list" : Str) = some (.type "list") := by first | rfl | decide +kernel
theorem bt_abs : bootBuiltins ("abs" : Str) = some (.builtin "abs") := by first | rfl | decide +kernel
theorem bt_max : bootBuiltins ("max" : Str) = some (.builtin "max") := by first | rfl | decide +kernel
theorem bt_min : bootBuiltins ("min" : Str) = some (.builtin "min") := by first | rfl | decide +kernel
theorem bt_any : bootBuiltins ("any" : Str) = some (.builtin "any") := by first | rfl | decide +kernel
structure Txt (K : PySem.W.Frag) (mg : Str → Option Value) where
  a__law_number : Addr
  d__law_number : FuncData
  F__law_number : Fun K "_law_number" "_law_number" s__law_number a__law_number d__law_number
  m__law_number : mg "_law_number" = some (.ref a__law_number)
  bi__law_number : Binds K d__law_number ["script", "index"] []
  a__law_take : Addr
  d__law_take : FuncData
  F__law_take : Fun K "_law_take" "_law_take" s__law_take a__law_take d__law_take
  m__law_take : mg "_law_take" = some (.ref a__law_take)
  bi__law_take : Binds K d__law_take ["draw", "many"] []
  a__law_pick : Addr
  d__law_pick : FuncData
  F__law_pick : Fun K "_law_pick" "_law_pick" s__law_pick a__law_pick d__law_pick
  m__law_pick : mg "_law_pick" = some (.ref a__law_pick)
  bi__law_pick : Binds K d__law_pick ["draw", "items"] []
  a_is_whole : Addr
  d_is_whole : FuncData
  F_is_whole : Fun K "is_whole" "is_whole" s_is_whole a_is_whole d_is_whole
  m_is_whole : mg "is_whole" = some (.ref a_is_whole)
  bi_is_whole : Binds K d_is_whole ["thing", "low", "high"] []
  a_is_point : Addr
  d_is_point : FuncData
  F_is_point : Fun K "is_point" "is_point" s_is_point a_is_point d_is_point
  m_is_point : mg "is_point" = some (.ref a_is_point)
  bi_is_point : Binds K d_is_point ["thing", "low", "high"] []
  a_turned : Addr
  d_turned : FuncData
  F_turned : Fun K "turned" "turned" s_turned a_turned d_turned
  m_turned : mg "turned" = some (.ref a_turned)
  bi_turned : Binds K d_turned ["x", "y", "turn"] []
  a_Ground___init__ : Addr
  d_Ground___init__ : FuncData
  F_Ground___init__ : Fun K "__init__" "Ground.__init__" s_Ground___init__ a_Ground___init__ d_Ground___init__
  bi_Ground___init__ : Binds K d_Ground___init__ ["self", "craters"] []
  a_Camera___init__ : Addr
  d_Camera___init__ : FuncData
  F_Camera___init__ : Fun K "__init__" "Camera.__init__" s_Camera___init__ a_Camera___init__ d_Camera___init__
  bi_Camera___init__ : Binds K d_Camera___init__ ["self", "width", "height", "error", "false", "lost"] []
  a_Sky___init__ : Addr
  d_Sky___init__ : FuncData
  F_Sky___init__ : Fun K "__init__" "Sky.__init__" s_Sky___init__ a_Sky___init__ d_Sky___init__
  bi_Sky___init__ : Binds K d_Sky___init__ ["self", "ground", "camera", "turns", "area"] []
  a_Camera_is_within : Addr
  d_Camera_is_within : FuncData
  F_Camera_is_within : Fun K "is_within" "Camera.is_within" s_Camera_is_within a_Camera_is_within d_Camera_is_within
  bi_Camera_is_within : Binds K d_Camera_is_within ["self", "x", "y", "more"] []
  a_Camera_is_sure : Addr
  d_Camera_is_sure : FuncData
  F_Camera_is_sure : Fun K "is_sure" "Camera.is_sure" s_Camera_is_sure a_Camera_is_sure d_Camera_is_sure
  bi_Camera_is_sure : Binds K d_Camera_is_sure ["self", "x", "y"] []
  a_Camera_check_picture : Addr
  d_Camera_check_picture : FuncData
  F_Camera_check_picture : Fun K "check_picture" "Camera.check_picture" s_Camera_check_picture a_Camera_check_picture d_Camera_check_picture
  bi_Camera_check_picture : Binds K d_Camera_check_picture ["self", "picture"] []
  a_Sky_standings : Addr
  d_Sky_standings : FuncData
  F_Sky_standings : Fun K "standings" "Sky.standings" s_Sky_standings a_Sky_standings d_Sky_standings
  bi_Sky_standings : Binds K d_Sky_standings ["self"] []
  a_Sky_place : Addr
  d_Sky_place : FuncData
  F_Sky_place : Fun K "place" "Sky.place" s_Sky_place a_Sky_place d_Sky_place
  bi_Sky_place : Binds K d_Sky_place ["self", "crater", "standing"] []
  a_Sky_places : Addr
  d_Sky_places : FuncData
  F_Sky_places : Fun K "places" "Sky.places" s_Sky_places a_Sky_places d_Sky_places
  bi_Sky_places : Binds K d_Sky_places ["self", "standing"] []
  a_Sky_sure_craters : Addr
  d_Sky_sure_craters : FuncData
  F_Sky_sure_craters : Fun K "sure_craters" "Sky.sure_craters" s_Sky_sure_craters a_Sky_sure_craters d_Sky_sure_craters
  bi_Sky_sure_craters : Binds K d_Sky_sure_craters ["self", "standing"] []
  a_along : Addr
  d_along : FuncData
  F_along : Fun K "along" "along" s_along a_along d_along
  m_along : mg "along" = some (.ref a_along)
  bi_along : Binds K d_along ["comers", "last", "pairs"] []
  a_augmented : Addr
  d_augmented : FuncData
  F_augmented : Fun K "augmented" "augmented" s_augmented a_augmented d_augmented
  m_augmented : mg "augmented" = some (.ref a_augmented)
  bi_augmented : Binds K d_augmented ["nexts", "one", "pairs"] []
  a_greatest : Addr
  d_greatest : FuncData
  F_greatest : Fun K "greatest" "greatest" s_greatest a_greatest d_greatest
  m_greatest : mg "greatest" = some (.ref a_greatest)
  bi_greatest : Binds K d_greatest ["nexts"] []
  a_short_lot : Addr
  d_short_lot : FuncData
  F_short_lot : Fun K "short_lot" "short_lot" s_short_lot a_short_lot d_short_lot
  m_short_lot : mg "short_lot" = some (.ref a_short_lot)
  bi_short_lot : Binds K d_short_lot ["nexts", "matching"] []
  a_turned_round : Addr
  d_turned_round : FuncData
  F_turned_round : Fun K "turned_round" "turned_round" s_turned_round a_turned_round d_turned_round
  m_turned_round : mg "turned_round" = some (.ref a_turned_round)
  bi_turned_round : Binds K d_turned_round ["nexts", "many"] []
  a_are_near : Addr
  d_are_near : FuncData
  F_are_near : Fun K "are_near" "are_near" s_are_near a_are_near d_are_near
  m_are_near : mg "are_near" = some (.ref a_are_near)
  bi_are_near : Binds K d_are_near ["point", "place", "error"] []
  a_nexts_of : Addr
  d_nexts_of : FuncData
  F_nexts_of : Fun K "nexts_of" "nexts_of" s_nexts_of a_nexts_of d_nexts_of
  m_nexts_of : mg "nexts_of" = some (.ref a_nexts_of)
  bi_nexts_of : Binds K d_nexts_of ["sky", "picture", "standing"] []
  a_sure_nexts : Addr
  d_sure_nexts : FuncData
  F_sure_nexts : Fun K "sure_nexts" "sure_nexts" s_sure_nexts a_sure_nexts d_sure_nexts
  m_sure_nexts : mg "sure_nexts" = some (.ref a_sure_nexts)
  bi_sure_nexts : Binds K d_sure_nexts ["sky", "picture", "standing"] []
  a_against : Addr
  d_against : FuncData
  F_against : Fun K "against" "against" s_against a_against d_against
  m_against : mg "against" = some (.ref a_against)
  bi_against : Binds K d_against ["sky", "picture", "standing"] []
  a_fits : Addr
  d_fits : FuncData
  F_fits : Fun K "fits" "fits" s_fits a_fits d_fits
  m_fits : mg "fits" = some (.ref a_fits)
  bi_fits : Binds K d_fits ["sky", "picture", "standing"] []
  a_plain_reading : Addr
  d_plain_reading : FuncData
  F_plain_reading : Fun K "plain_reading" "plain_reading" s_plain_reading a_plain_reading d_plain_reading
  m_plain_reading : mg "plain_reading" = some (.ref a_plain_reading)
  bi_plain_reading : Binds K d_plain_reading ["sky", "picture"] []
  a_shifts_of : Addr
  d_shifts_of : FuncData
  F_shifts_of : Fun K "shifts_of" "shifts_of" s_shifts_of a_shifts_of d_shifts_of
  m_shifts_of : mg "shifts_of" = some (.ref a_shifts_of)
  bi_shifts_of : Binds K d_shifts_of ["sky", "point", "turn"] []
  a_votes_for : Addr
  d_votes_for : FuncData
  F_votes_for : Fun K "votes_for" "votes_for" s_votes_for a_votes_for d_votes_for
  m_votes_for : mg "votes_for" = some (.ref a_votes_for)
  bi_votes_for : Binds K d_votes_for ["sky", "picture", "turn"] []
  a_voted_reading : Addr
  d_voted_reading : FuncData
  F_voted_reading : Fun K "voted_reading" "voted_reading" s_voted_reading a_voted_reading d_voted_reading
  m_voted_reading : mg "voted_reading" = some (.ref a_voted_reading)
  bi_voted_reading : Binds K d_voted_reading ["sky", "picture"] []
  a__law_ground : Addr
  d__law_ground : FuncData
  F__law_ground : Fun K "_law_ground" "_law_ground" s__law_ground a__law_ground d__law_ground
  m__law_ground : mg "_law_ground" = some (.ref a__law_ground)
  bi__law_ground : Binds K d__law_ground ["draw", "most", "side"] []
  a__law_camera : Addr
  d__law_camera : FuncData
  F__law_camera : Fun K "_law_camera" "_law_camera" s__law_camera a__law_camera d__law_camera
  m__law_camera : mg "_law_camera" = some (.ref a__law_camera)
  bi__law_camera : Binds K d__law_camera ["draw"] []
  a__law_sky : Addr
  d__law_sky : FuncData
  F__law_sky : Fun K "_law_sky" "_law_sky" s__law_sky a__law_sky d__law_sky
  m__law_sky : mg "_law_sky" = some (.ref a__law_sky)
  bi__law_sky : Binds K d__law_sky ["draw", "most"] []
  a__law_spots : Addr
  d__law_spots : FuncData
  F__law_spots : Fun K "_law_spots" "_law_spots" s__law_spots a__law_spots d__law_spots
  m__law_spots : mg "_law_spots" = some (.ref a__law_spots)
  bi__law_spots : Binds K d__law_spots ["camera"] []
  a__law_picture : Addr
  d__law_picture : FuncData
  F__law_picture : Fun K "_law_picture" "_law_picture" s__law_picture a__law_picture d__law_picture
  m__law_picture : mg "_law_picture" = some (.ref a__law_picture)
  bi__law_picture : Binds K d__law_picture ["draw", "sky", "standing"] []
  a_law : Addr
  d_law : FuncData
  F_law : Fun K "law" "law" s_law a_law d_law
  m_law : mg "law" = some (.ref a_law)
  bi_law : Binds K d_law ["script"] []
  b_len : mg "len" = none
  b_int : mg "int" = none
  b_range : mg "range" = none
  b_bool : mg "bool" = none
  b_isinstance : mg "isinstance" = none
  b_tuple : mg "tuple" = none
  b_enumerate : mg "enumerate" = none
  b_sorted : mg "sorted" = none
  b_all : mg "all" = none
  b_zip : mg "zip" = none
  b_dict : mg "dict" = none
  b_list : mg "list" = none
  b_abs : mg "abs" = none
  b_max : mg "max" = none
  b_min : mg "min" = none
  b_any : mg "any" = none
  isi : IsTab K isT
  c_MOST_SIZE : ∃ t, mg "MOST_SIZE" = some (.int 99 t)
  c_MOST_PLACE : ∃ t, mg "MOST_PLACE" = some (.int 1000000 t)
  c_MOST_COUNT : ∃ t, mg "MOST_COUNT" = some (.int 100 t)
  na_Ground_craters : NoAttr K CA.Ground "craters"
  cl_Ground : Cls K CA.Ground
  c_MOST_SIDE : ∃ t, mg "MOST_SIDE" = some (.int 1000 t)
  na_Camera_width : NoAttr K CA.Camera "width"
  cl_Camera : Cls K CA.Camera
  na_Camera_height : NoAttr K CA.Camera "height"
  na_Camera_error : NoAttr K CA.Camera "error"
  na_Camera_false : NoAttr K CA.Camera "false"
  na_Camera_lost : NoAttr K CA.Camera "lost"
  c_MOST_STANDINGS : ∃ t, mg "MOST_STANDINGS" = some (.int 40000 t)
  na_Sky_ground : NoAttr K CA.Sky "ground"
  cl_Sky : Cls K CA.Sky
  na_Sky_camera : NoAttr K CA.Sky "camera"
  na_Sky_turns : NoAttr K CA.Sky "turns"
  na_Sky_area : NoAttr K CA.Sky "area"
  me_Camera_is_within : Meth K CA.Camera "is_within" a_Camera_is_within
  me_Sky_place : Meth K CA.Sky "place" a_Sky_place
  me_Sky_places : Meth K CA.Sky "places" a_Sky_places
  me_Camera_is_sure : Meth K CA.Camera "is_sure" a_Camera_is_sure
  me_Sky_sure_craters : Meth K CA.Sky "sure_craters" a_Sky_sure_craters
  me_Camera_check_picture : Meth K CA.Camera "check_picture" a_Camera_check_picture
  me_Sky_standings : Meth K CA.Sky "standings" a_Sky_standings
  mg_Ground : mg "Ground" = some (.ref CA.Ground)
  mk_Ground : Mk K CA.Ground a_Ground___init__
  mg_Camera : mg "Camera" = some (.ref CA.Camera)
  mk_Camera : Mk K CA.Camera a_Camera___init__
  mg_Sky : mg "Sky" = some (.ref CA.Sky)
  mk_Sky : Mk K CA.Sky a_Sky___init__
section
variable {P : Program} {w : World} {K : PySem.W.Frag} {mg : Str → Option Value} {base : Heap}
theorem pr__law_number (T : Txt K mg) (cdv : Value) (A : Around) (outer : List Env) (s : Shared) (H : Hp) (E : XK) (hr : Room 0 (A.deeper (envOfC "_law_number" (defScope s__law_number) s.heap.objs.size T.a__law_number cdv))) :
    PSsD (cxOf CX0 P w K mg base N__law_number "_law_number" (defScope s__law_number) T.a__law_number cdv A outer s H E).nox (defBody s__law_number) T__law_number :=
  (pssd_cons (psd_asg (ped_if (ptd_cmp (od_ne hr.units) (ped_name 0) (ped_lstF pad_nil) (nomark _)) (ped_tup (pad_cons (ped_ix (ixd hr.units) (ped_name 0) (ped_op od_mod (ped_name 1) (ped_callB cd_len T.b_len bt_len (pad_cons (ped_name 0) pad_nil)))) (pad_cons (ped_op od_fdiv (ped_name 1) (ped_callB cd_len T.b_len bt_len (pad_cons (ped_name 0) pad_nil))) pad_nil))) (ped_tup (pad_cons ped_int (pad_cons ped_int pad_nil)))) (pgd_tup rfl (pgsd_cons (pgd_name (i := 2) sc__law_number.nd rfl (Or.inl rfl)) (pgsd_cons (pgd_name (i := 3) sc__law_number.nd rfl (Or.inl rfl)) pgsd_nil))))
      (pssd_cons (psd_set (i := 4) sc__law_number.nd rfl (Or.inl rfl) (ped_if (ptd_cmp (od_lt hr.units) (ped_name 3) ped_int (nomark _)) (ped_op od_sub (ped_name 2) (ped_op od_pow ped_int ped_int)) ped_int))
      (pssd_cons (psd_for PassesOwn.never rfl (pid_range1 T.b_range (pad_cons (ped_op od_mod (ped_callTy cd_int T.b_int bt_int (pad_cons (ped_name 3) pad_nil)) ped_int) pad_nil)) (pgd_name (i := 5) sc__law_number.nd rfl (Or.inl rfl))
      (pssd_one (psd_set (i := 4) sc__law_number.nd rfl (Or.inl rfl) (ped_op od_fdiv (ped_name 4) ped_int))))
      (pssd_cons (psd_if (ptd_cmp (od_gt hr.units) (ped_name 4) ped_int (nomark _))
      (pssd_one (psd_ret (ped_op od_mod (ped_callTy cd_int T.b_int bt_int (pad_cons (ped_name 4) pad_nil)) ped_int)))
      pssd_nil)
      (pssd_cons (psd_set (i := 6) sc__law_number.nd rfl (Or.inl rfl) (ped_op od_mod (ped_op od_add (ped_op od_mul (ped_callTy cd_int T.b_int bt_int (pad_cons (ped_op od_add (ped_name 2) (ped_op od_mul ped_int (ped_name 1))) pad_nil)) ped_int) (ped_op od_mul ped_int (ped_callB cd_len T.b_len bt_len (pad_cons (ped_name 0) pad_nil)))) ped_int))
      (pssd_cons (psd_set (i := 6) sc__law_number.nd rfl (Or.inl rfl) (ped_op od_mod (ped_op od_add (ped_op od_mul (ped_name 6) (ped_name 6)) (ped_op od_mul ped_int (ped_name 1))) ped_int))
      (pssd_one (psd_ret (ped_callTy cd_int T.b_int bt_int (pad_cons (ped_op od_mod (ped_op od_add (ped_op od_mul (ped_name 6) ped_int) (ped_op od_fdiv (ped_name 6) ped_int)) ped_int) pad_nil))))))))))
theorem ok__law_number (T : Txt K mg) : FnD P w K mg base 1 T.a__law_number T.d__law_number ["script", "index"] sp__law_number :=
  fn_d T.F__law_number sc__law_number len__law_number (pr__law_number T) run__law_number
theorem pr__law_take (T : Txt K mg) (h__law_number : FnD P w K mg base 1 T.a__law_number T.d__law_number ["script", "index"] sp__law_number) (cdv : Value) (A : Around) (outer : List Env) (s : Shared) (H : Hp) (E : XK) (hr : Room 1 (A.deeper (envOfC "_law_take" (defScope s__law_take) s.heap.objs.size T.a__law_take cdv))) :
    PSsD (cxOf CX0 P w K mg base N__law_take "_law_take" (defScope s__law_take) T.a__law_take cdv A outer s H E).nox (defBody s__law_take) T__law_take :=
  (pssd_cons (psd_augS (ped_name 0) ped_int get_list ped_int iod_add (pset_d hr.units))
      (pssd_one (psd_ret (ped_op od_mod (ped_callTy cd_int T.b_int bt_int (pad_cons (ped_call h__law_number (hr.mono (by decide)) T.m__law_number T.F__law_number.kp T.bi__law_number (pad_cons (ped_ix (ixd hr.units) (ped_name 0) ped_int) (pad_cons (ped_callTy cd_int T.b_int bt_int (pad_cons (ped_ix (ixd hr.units) (ped_name 0) ped_int) pad_nil)) pad_nil))) pad_nil)) (ped_name 1)))))
theorem ok__law_take (T : Txt K mg) (h__law_number : FnD P w K mg base 1 T.a__law_number T.d__law_number ["script", "index"] sp__law_number) : FnD P w K mg base 2 T.a__law_take T.d__law_take ["draw", "many"] sp__law_take :=
  fn_d T.F__law_take sc__law_take len__law_take (pr__law_take T h__law_number) run__law_take
theorem pr__law_pick (T : Txt K mg) (h__law_take : FnD P w K mg base 2 T.a__law_take T.d__law_take ["draw", "many"] sp__law_take) (cdv : Value) (A : Around) (outer : List Env) (s : Shared) (H : Hp) (E : XK) (hr : Room 2 (A.deeper (envOfC "_law_pick" (defScope s__law_pick) s.heap.objs.size T.a__law_pick cdv))) :
    PSsD (cxOf CX0 P w K mg base N__law_pick "_law_pick" (defScope s__law_pick) T.a__law_pick cdv A outer s H E).nox (defBody s__law_pick) T__law_pick :=
  (pssd_one (psd_ret (ped_ix (ixd hr.units) (ped_name 1) (ped_call h__law_take (hr.mono (by decide)) T.m__law_take T.F__law_take.kp T.bi__law_take (pad_cons (ped_name 0) (pad_cons (ped_callB cd_len T.b_len bt_len (pad_cons (ped_name 1) pad_nil)) pad_nil))))))
theorem ok__law_pick (T : Txt K mg) (h__law_take : FnD P w K mg base 2 T.a__law_take T.d__law_take ["draw", "many"] sp__law_take) : FnD P w K mg base 3 T.a__law_pick T.d__law_pick ["draw", "items"] sp__law_pick :=
  fn_d T.F__law_pick sc__law_pick len__law_pick (pr__law_pick T h__law_take) run__law_pick
theorem pr_is_whole (T : Txt K mg) (cdv : Value) (A : Around) (outer : List Env) (s : Shared) (H : Hp) (E : XK) (hr : Room 0 (A.deeper (envOfC "is_whole" (defScope s_is_whole) s.heap.objs.size T.a_is_whole cdv))) :
    PSsD (cxOf CX0 P w K mg base N_is_whole "is_whole" (defScope s_is_whole) T.a_is_whole cdv A outer s H E).nox (defBody s_is_whole) T_is_whole :=
  (pssd_one (psd_ret (ped_and (ped_callB (cd_isi T.isi) T.b_isinstance bt_isinstance (pad_cons (ped_name 0) (pad_cons (ped_bltn T.b_int bt_int) pad_nil))) (ped_and (ped_not (ped_callB (cd_isi T.isi) T.b_isinstance bt_isinstance (pad_cons (ped_name 0) (pad_cons (ped_bltn T.b_bool bt_bool) pad_nil)))) (ped_one (ped_chain (od_le hr.units) (od_le hr.units) (ped_name 1) (ped_name 0) (ped_name 2)))))))
theorem ok_is_whole (T : Txt K mg) : FnD P w K mg base 1 T.a_is_whole T.d_is_whole ["thing", "low", "high"] sp_is_whole :=
  fn_d T.F_is_whole sc_is_whole len_is_whole (pr_is_whole T) run_is_whole
theorem pr_is_point (T : Txt K mg) (h_is_whole : FnD P w K mg base 1 T.a_is_whole T.d_is_whole ["thing", "low", "high"] sp_is_whole) (cdv : Value) (A : Around) (outer : List Env) (s : Shared) (H : Hp) (E : XK) (hr : Room 1 (A.deeper (envOfC "is_point" (defScope s_is_point) s.heap.objs.size T.a_is_point cdv))) :
    PSsD (cxOf CX0 P w K mg base N_is_point "is_point" (defScope s_is_point) T.a_is_point cdv A outer s H E).nox (defBody s_is_point) T_is_point :=
  (pssd_cons (psd_if (ptd_w (pwd_or (ptd_not (ptd_val (ped_callB (cd_isi T.isi) T.b_isinstance bt_isinstance (pad_cons (ped_name 0) (pad_cons (ped_bltn T.b_tuple bt_tuple) pad_nil))))) (pwd_or1 (ptd_cmp (od_ne hr.units) (ped_callB cd_len T.b_len bt_len (pad_cons (ped_name 0) pad_nil)) ped_int (nomark _)))))
      (pssd_one (psd_ret ped_bl))
      pssd_nil)
      (pssd_one (psd_ret (ped_and (ped_call h_is_whole (hr.mono (by decide)) T.m_is_whole T.F_is_whole.kp T.bi_is_whole (pad_cons (ped_ix (ixd hr.units) (ped_name 0) ped_int) (pad_cons (ped_name 1) (pad_cons (ped_name 2) pad_nil)))) (ped_and (ped_call h_is_whole (hr.mono (by decide)) T.m_is_whole T.F_is_whole.kp T.bi_is_whole (pad_cons (ped_ix (ixd hr.units) (ped_name 0) ped_int) (pad_cons (ped_name 1) (pad_cons (ped_name 2) pad_nil)))) (ped_one (ped_call h_is_whole (hr.mono (by decide)) T.m_is_whole T.F_is_whole.kp T.bi_is_whole (pad_cons (ped_ix (ixd hr.units) (ped_name 0) ped_int) (pad_cons ped_int (pad_cons (ped_gint (Classical.choose_spec T.c_MOST_SIZE)) pad_nil))))))))))
theorem ok_is_point (T : Txt K mg) (h_is_whole : FnD P w K mg base 1 T.a_is_whole T.d_is_whole ["thing", "low", "high"] sp_is_whole) : FnD P w K mg base 2 T.a_is_point T.d_is_point ["thing", "low", "high"] sp_is_point :=
  fn_d T.F_is_point sc_is_point len_is_point (pr_is_point T h_is_whole) run_is_point
theorem pr_turned (T : Txt K mg) (cdv : Value) (A : Around) (outer : List Env) (s : Shared) (H : Hp) (E : XK) (hr : Room 0 (A.deeper (envOfC "turned" (defScope s_turned) s.heap.objs.size T.a_turned cdv))) :
    PSsD (cxOf CX0 P w K mg base N_turned "turned" (defScope s_turned) T.a_turned cdv A outer s H E).nox (defBody s_turned) T_turned :=
  (pssd_cons (psd_if (ptd_cmp (od_eq hr.units) (ped_name 2) ped_int (nomark _))
      (pssd_one (psd_ret (ped_tup (pad_cons (ped_name 0) (pad_cons (ped_name 1) pad_nil)))))
      pssd_nil)
      (pssd_cons (psd_if (ptd_cmp (od_eq hr.units) (ped_name 2) ped_int (nomark _))
      (pssd_one (psd_ret (ped_tup (pad_cons (ped_op od_sub ped_int (ped_name 1)) (pad_cons (ped_name 0) pad_nil)))))
      pssd_nil)
      (pssd_one (psd_ret (ped_if (ptd_cmp (od_eq hr.units) (ped_name 2) ped_int (nomark _)) (ped_tup (pad_cons (ped_op od_sub ped_int (ped_name 0)) (pad_cons (ped_op od_sub ped_int (ped_name 1)) pad_nil))) (ped_tup (pad_cons (ped_name 1) (pad_cons (ped_op od_sub ped_int (ped_name 0)) pad_nil))))))))
theorem ok_turned (T : Txt K mg) : FnD P w K mg base 1 T.a_turned T.d_turned ["x", "y", "turn"] sp_turned :=
  fn_d T.F_turned sc_turned len_turned (pr_turned T) run_turned
theorem pr_Ground___init__ (T : Txt K mg) (h_is_point : FnD P w K mg base 2 T.a_is_point T.d_is_point ["thing", "low", "high"] sp_is_point) (cdv : Value) (A : Around) (outer : List Env) (s : Shared) (H : Hp) (E : XK) (hr : Room 2 (A.deeper (envOfC "Ground.__init__" (defScope s_Ground___init__) s.heap.objs.size T.a_Ground___init__ cdv))) :
    PSsD (cxOf CX0 P w K mg base N_Ground___init__ "Ground.__init__" (defScope s_Ground___init__) T.a_Ground___init__ cdv A outer s H E).nox (defBody s_Ground___init__) T_Ground___init__ :=
  (pssd_cons (psd_for PassesOwn.never rfl (pid_enum T.b_enumerate (pad_cons (ped_name 1) pad_nil)) (pgd_tup rfl (pgsd_cons (pgd_name (i := 2) sc_Ground___init__.nd rfl (Or.inl rfl)) (pgsd_cons (pgd_name (i := 3) sc_Ground___init__.nd rfl (Or.inl rfl)) pgsd_nil)))
      (pssd_one (psd_if (ptd_w (pwd_or (ptd_cmp (od_ge hr.units) (ped_name 2) (ped_gint (Classical.choose_spec T.c_MOST_COUNT)) (nomark _)) (pwd_or1 (ptd_not (ptd_val (ped_call h_is_point (hr.mono (by decide)) T.m_is_point T.F_is_point.kp T.bi_is_point (pad_cons (ped_name 3) (pad_cons (ped_op od_sub ped_int (ped_gint (Classical.choose_spec T.c_MOST_PLACE))) (pad_cons (ped_gint (Classical.choose_spec T.c_MOST_PLACE)) pad_nil)))))))))
      (pssd_one psd_never)
      pssd_nil)))
      (pssd_one (psd_fld T.cl_Ground T.na_Ground_craters (ped_name 0) (ped_callTy cd_tuple T.b_tuple bt_tuple (pad_cons (ped_fz (ped_callB (cd_sorted hr.units) T.b_sorted bt_sorted (pad_cons (ped_name 1) pad_nil))) pad_nil)))))
theorem ok_Ground___init__ (T : Txt K mg) (h_is_point : FnD P w K mg base 2 T.a_is_point T.d_is_point ["thing", "low", "high"] sp_is_point) : FnD P w K mg base 3 T.a_Ground___init__ T.d_Ground___init__ ["self", "craters"] sp_Ground___init__ :=
  fn_d T.F_Ground___init__ sc_Ground___init__ len_Ground___init__ (pr_Ground___init__ T h_is_point) run_Ground___init__
theorem pr_Camera___init__ (T : Txt K mg) (h_is_whole : FnD P w K mg base 1 T.a_is_whole T.d_is_whole ["thing", "low", "high"] sp_is_whole) (cdv : Value) (A : Around) (outer : List Env) (s : Shared) (H : Hp) (E : XK) (hr : Room 1 (A.deeper (envOfC "Camera.__init__" (defScope s_Camera___init__) s.heap.objs.size T.a_Camera___init__ cdv))) :
    PSsD (cxOf CX0 P w K mg base N_Camera___init__ "Camera.__init__" (defScope s_Camera___init__) T.a_Camera___init__ cdv A outer s H E).nox (defBody s_Camera___init__) T_Camera___init__ :=
  (pssd_cons (psd_for PassesOwn.never rfl (pid_seq (ped_tup (pad_cons (ped_tup (pad_cons ped_str (pad_cons (ped_name 1) (pad_cons ped_int (pad_cons (ped_gint (Classical.choose_spec T.c_MOST_SIDE)) pad_nil))))) (pad_cons (ped_tup (pad_cons ped_str (pad_cons (ped_name 2) (pad_cons ped_int (pad_cons (ped_gint (Classical.choose_spec T.c_MOST_SIDE)) pad_nil))))) (pad_cons (ped_tup (pad_cons ped_str (pad_cons (ped_name 3) (pad_cons ped_int (pad_cons (ped_gint (Classical.choose_spec T.c_MOST_COUNT)) pad_nil))))) (pad_cons (ped_tup (pad_cons ped_str (pad_cons (ped_name 4) (pad_cons ped_int (pad_cons (ped_gint (Classical.choose_spec T.c_MOST_COUNT)) pad_nil))))) (pad_cons (ped_tup (pad_cons ped_str (pad_cons (ped_name 5) (pad_cons ped_int (pad_cons (ped_gint (Classical.choose_spec T.c_MOST_COUNT)) pad_nil))))) pad_nil))))))) (pgd_tup rfl (pgsd_cons (pgd_name (i := 6) sc_Camera___init__.nd rfl (Or.inl rfl)) (pgsd_cons (pgd_name (i := 7) sc_Camera___init__.nd rfl (Or.inl rfl)) (pgsd_cons (pgd_name (i := 8) sc_Camera___init__.nd rfl (Or.inl rfl)) (pgsd_cons (pgd_name (i := 9) sc_Camera___init__.nd rfl (Or.inl rfl)) pgsd_nil)))))
      (pssd_one (psd_if (ptd_not (ptd_val (ped_call h_is_whole (hr.mono (by decide)) T.m_is_whole T.F_is_whole.kp T.bi_is_whole (pad_cons (ped_name 7) (pad_cons (ped_name 8) (pad_cons (ped_name 9) pad_nil))))))
      (pssd_one psd_never)
      pssd_nil)))
      (pssd_cons (psd_fld T.cl_Camera T.na_Camera_width (ped_name 0) (ped_name 1))
      (pssd_cons (psd_fld T.cl_Camera T.na_Camera_height (ped_name 0) (ped_name 2))
      (pssd_cons (psd_fld T.cl_Camera T.na_Camera_error (ped_name 0) (ped_name 3))
      (pssd_cons (psd_fld T.cl_Camera T.na_Camera_false (ped_name 0) (ped_name 4))
      (pssd_one (psd_fld T.cl_Camera T.na_Camera_lost (ped_name 0) (ped_name 5))))))))
theorem ok_Camera___init__ (T : Txt K mg) (h_is_whole : FnD P w K mg base 1 T.a_is_whole T.d_is_whole ["thing", "low", "high"] sp_is_whole) : FnD P w K mg base 2 T.a_Camera___init__ T.d_Camera___init__ ["self", "width", "height", "error", "false", "lost"] sp_Camera___init__ :=
  fn_d T.F_Camera___init__ sc_Camera___init__ len_Camera___init__ (pr_Camera___init__ T h_is_whole) run_Camera___init__
theorem pr_Sky___init__ (T : Txt K mg) (h_is_whole : FnD P w K mg base 1 T.a_is_whole T.d_is_whole ["thing", "low", "high"] sp_is_whole) (cdv : Value) (A : Around) (outer : List Env) (s : Shared) (H : Hp) (E : XK) (hr : Room 1 (A.deeper (envOfC "Sky.__init__" (defScope s_Sky___init__) s.heap.objs.size T.a_Sky___init__ cdv))) :
    PSsD (cxOf CX0 P w K mg base N_Sky___init__ "Sky.__init__" (defScope s_Sky___init__) T.a_Sky___init__ cdv A outer s H E).nox (defBody s_Sky___init__) T_Sky___init__ :=
  (pssd_cons (psd_if (ptd_w (pwd_or (ptd_not (ptd_val (ped_callB (cd_isi T.isi) T.b_isinstance bt_isinstance (pad_cons (ped_name 3) (pad_cons (ped_bltn T.b_tuple bt_tuple) pad_nil))))) (pwd_or (ptd_cmp (od_eq hr.units) (ped_name 3) (ped_tup pad_nil) (nomark _)) (pwd_or1 (ptd_not (ptd_val (ped_callB (cd_all rfl) T.b_all bt_all (pad_cons (ped_fz (ped_lc (own := [("turn", 5)]) rfl sc_Sky___init__.nd (pid_seq (ped_name 3)) (blkOk_by (N := N_Sky___init__) (sc := defScope s_Sky___init__) (by decide +kernel)) (fun _ _ _ _ _ => (pgd_name (i := 5) sc_Sky___init__.nd rfl (Or.inl rfl))) (fun _ _ _ _ _ => ptsd_nil) (fun _ _ _ _ _ => (ped_call h_is_whole (hr.mono (by decide)) T.m_is_whole T.F_is_whole.kp T.bi_is_whole (pad_cons (ped_name 5) (pad_cons ped_int (pad_cons ped_int pad_nil))))))) pad_nil))))))))
      (pssd_one psd_never)
      pssd_nil)
      (pssd_cons (psd_if (ptd_not (ptd_val (ped_callB (cd_all rfl) T.b_all bt_all (pad_cons (ped_fz (ped_lc (own := [("one", 6), ("other", 7)]) rfl sc_Sky___init__.nd (pid_zip T.b_zip (pad_cons (ped_name 3) (pad_cons (ped_slice sld (ped_name 3) (pod_some ped_int) pod_none) pad_nil))) (blkOk_by (N := N_Sky___init__) (sc := defScope s_Sky___init__) (by decide +kernel)) (fun _ _ _ _ _ => (pgd_tup rfl (pgsd_cons (pgd_name (i := 6) sc_Sky___init__.nd rfl (Or.inl rfl)) (pgsd_cons (pgd_name (i := 7) sc_Sky___init__.nd rfl (Or.inl rfl)) pgsd_nil)))) (fun _ _ _ _ _ => ptsd_nil) (fun _ _ _ _ _ => (ped_cmp (od_lt hr.units) (ped_name 6) (ped_name 7) (nomark _))))) pad_nil))))
      (pssd_one psd_never)
      pssd_nil)
      (pssd_cons (psd_if (ptd_w (pwd_or (ptd_not (ptd_val (ped_callB (cd_isi T.isi) T.b_isinstance bt_isinstance (pad_cons (ped_name 4) (pad_cons (ped_bltn T.b_tuple bt_tuple) pad_nil))))) (pwd_or1 (ptd_cmp (od_ne hr.units) (ped_callB cd_len T.b_len bt_len (pad_cons (ped_name 4) pad_nil)) ped_int (nomark _)))))
      (pssd_one psd_never)
      pssd_nil)
      (pssd_cons (psd_if (ptd_not (ptd_val (ped_callB (cd_all rfl) T.b_all bt_all (pad_cons (ped_fz (ped_lc (own := [("number", 8)]) rfl sc_Sky___init__.nd (pid_seq (ped_name 4)) (blkOk_by (N := N_Sky___init__) (sc := defScope s_Sky___init__) (by decide +kernel)) (fun _ _ _ _ _ => (pgd_name (i := 8) sc_Sky___init__.nd rfl (Or.inl rfl))) (fun _ _ _ _ _ => ptsd_nil) (fun _ _ _ _ _ => (ped_call h_is_whole (hr.mono (by decide)) T.m_is_whole T.F_is_whole.kp T.bi_is_whole (pad_cons (ped_name 8) (pad_cons (ped_op od_sub ped_int (ped_gint (Classical.choose_spec T.c_MOST_PLACE))) (pad_cons (ped_gint (Classical.choose_spec T.c_MOST_PLACE)) pad_nil))))))) pad_nil))))
      (pssd_one psd_never)
      pssd_nil)
      (pssd_cons (psd_if (ptd_w (pwd_or (ptd_cmp (od_gt hr.units) (ped_ix (ixd hr.units) (ped_name 4) ped_int) (ped_ix (ixd hr.units) (ped_name 4) ped_int) (nomark _)) (pwd_or1 (ptd_cmp (od_gt hr.units) (ped_ix (ixd hr.units) (ped_name 4) ped_int) (ped_ix (ixd hr.units) (ped_name 4) ped_int) (nomark _)))))
      (pssd_one psd_never)
      pssd_nil)
      (pssd_cons (psd_if (ptd_cmp (od_gt hr.units) (ped_op od_mul (ped_op od_mul (ped_callB cd_len T.b_len bt_len (pad_cons (ped_name 3) pad_nil)) (ped_op od_add (ped_op od_sub (ped_ix (ixd hr.units) (ped_name 4) ped_int) (ped_ix (ixd hr.units) (ped_name 4) ped_int)) ped_int)) (ped_op od_add (ped_op od_sub (ped_ix (ixd hr.units) (ped_name 4) ped_int) (ped_ix (ixd hr.units) (ped_name 4) ped_int)) ped_int)) (ped_gint (Classical.choose_spec T.c_MOST_STANDINGS)) (nomark _))
      (pssd_one psd_never)
      pssd_nil)
      (pssd_cons (psd_fld T.cl_Sky T.na_Sky_ground (ped_name 0) (ped_name 1))
      (pssd_cons (psd_fld T.cl_Sky T.na_Sky_camera (ped_name 0) (ped_name 2))
      (pssd_cons (psd_fld T.cl_Sky T.na_Sky_turns (ped_name 0) (ped_name 3))
      (pssd_one (psd_fld T.cl_Sky T.na_Sky_area (ped_name 0) (ped_name 4))))))))))))
theorem ok_Sky___init__ (T : Txt K mg) (h_is_whole : FnD P w K mg base 1 T.a_is_whole T.d_is_whole ["thing", "low", "high"] sp_is_whole) : FnD P w K mg base 2 T.a_Sky___init__ T.d_Sky___init__ ["self", "ground", "camera", "turns", "area"] sp_Sky___init__ :=
  fn_d T.F_Sky___init__ sc_Sky___init__ len_Sky___init__ (pr_Sky___init__ T h_is_whole) run_Sky___init__
theorem pr_Camera_is_within (T : Txt K mg) (cdv : Value) (A : Around) (outer : List Env) (s : Shared) (H : Hp) (E : XK) (hr : Room 0 (A.deeper (envOfC "Camera.is_within" (defScope s_Camera_is_within) s.heap.objs.size T.a_Camera_is_within cdv))) :
    PSsD (cxOf CX0 P w K mg base N_Camera_is_within "Camera.is_within" (defScope s_Camera_is_within) T.a_Camera_is_within cdv A outer s H E).nox (defBody s_Camera_is_within) T_Camera_is_within :=
  (pssd_one (psd_ret (ped_and (ped_chain (od_le hr.units) (od_lt hr.units) (ped_op od_sub ped_int (ped_name 3)) (ped_name 1) (ped_op od_add (ped_fld T.cl_Camera T.na_Camera_width (ped_name 0)) (ped_name 3))) (ped_one (ped_chain (od_le hr.units) (od_lt hr.units) (ped_op od_sub ped_int (ped_name 3)) (ped_name 2) (ped_op od_add (ped_fld T.cl_Camera T.na_Camera_height (ped_name 0)) (ped_name 3)))))))
theorem ok_Camera_is_within (T : Txt K mg) : FnD P w K mg base 1 T.a_Camera_is_within T.d_Camera_is_within ["self", "x", "y", "more"] sp_Camera_is_within :=
  fn_d T.F_Camera_is_within sc_Camera_is_within len_Camera_is_within (pr_Camera_is_within T) run_Camera_is_within
theorem pr_Camera_is_sure (T : Txt K mg) (h_Camera_is_within : FnD P w K mg base 1 T.a_Camera_is_within T.d_Camera_is_within ["self", "x", "y", "more"] sp_Camera_is_within) (cdv : Value) (A : Around) (outer : List Env) (s : Shared) (H : Hp) (E : XK) (hr : Room 1 (A.deeper (envOfC "Camera.is_sure" (defScope s_Camera_is_sure) s.heap.objs.size T.a_Camera_is_sure cdv))) :
    PSsD (cxOf CX0 P w K mg base N_Camera_is_sure "Camera.is_sure" (defScope s_Camera_is_sure) T.a_Camera_is_sure cdv A outer s H E).nox (defBody s_Camera_is_sure) T_Camera_is_sure :=
  (pssd_one (psd_ret (ped_meth T.cl_Camera T.me_Camera_is_within h_Camera_is_within (hr.mono (by decide)) T.bi_Camera_is_within (ped_name 0) (pad_cons (ped_name 1) (pad_cons (ped_name 2) (pad_cons (ped_op od_sub ped_int (ped_fld T.cl_Camera T.na_Camera_error (ped_name 0))) pad_nil))))))
theorem ok_Camera_is_sure (T : Txt K mg) (h_Camera_is_within : FnD P w K mg base 1 T.a_Camera_is_within T.d_Camera_is_within ["self", "x", "y", "more"] sp_Camera_is_within) : FnD P w K mg base 2 T.a_Camera_is_sure T.d_Camera_is_sure ["self", "x", "y"] sp_Camera_is_sure :=
  fn_d T.F_Camera_is_sure sc_Camera_is_sure len_Camera_is_sure (pr_Camera_is_sure T h_Camera_is_within) run_Camera_is_sure
theorem pr_Camera_check_picture (T : Txt K mg) (h_Camera_is_within : FnD P w K mg base 1 T.a_Camera_is_within T.d_Camera_is_within ["self", "x", "y", "more"] sp_Camera_is_within) (h_is_point : FnD P w K mg base 2 T.a_is_point T.d_is_point ["thing", "low", "high"] sp_is_point) (cdv : Value) (A : Around) (outer : List Env) (s : Shared) (H : Hp) (E : XK) (hr : Room 2 (A.deeper (envOfC "Camera.check_picture" (defScope s_Camera_check_picture) s.heap.objs.size T.a_Camera_check_picture cdv))) :
    PSsD (cxOf CX0 P w K mg base N_Camera_check_picture "Camera.check_picture" (defScope s_Camera_check_picture) T.a_Camera_check_picture cdv A outer s H E).nox (defBody s_Camera_check_picture) T_Camera_check_picture :=
  (pssd_cons (psd_if (ptd_not (ptd_val (ped_callB (cd_isi T.isi) T.b_isinstance bt_isinstance (pad_cons (ped_name 1) (pad_cons (ped_bltn T.b_tuple bt_tuple) pad_nil)))))
      (pssd_one psd_never)
      pssd_nil)
      (pssd_one (psd_for PassesOwn.never rfl (pid_enum T.b_enumerate (pad_cons (ped_name 1) pad_nil)) (pgd_tup rfl (pgsd_cons (pgd_name (i := 2) sc_Camera_check_picture.nd rfl (Or.inl rfl)) (pgsd_cons (pgd_name (i := 3) sc_Camera_check_picture.nd rfl (Or.inl rfl)) pgsd_nil)))
      (pssd_one (psd_if (ptd_w (pwd_or (ptd_not (ptd_val (ped_call h_is_point (hr.mono (by decide)) T.m_is_point T.F_is_point.kp T.bi_is_point (pad_cons (ped_name 3) (pad_cons ped_int (pad_cons (ped_gint (Classical.choose_spec T.c_MOST_SIDE)) pad_nil)))))) (pwd_or1 (ptd_not (ptd_val (ped_meth T.cl_Camera T.me_Camera_is_within h_Camera_is_within (hr.mono (by decide)) T.bi_Camera_is_within (ped_name 0) (pad_cons (ped_ix (ixd hr.units) (ped_name 3) ped_int) (pad_cons (ped_ix (ixd hr.units) (ped_name 3) ped_int) (pad_cons ped_int pad_nil)))))))))
      (pssd_one psd_never)
      pssd_nil)))))
theorem ok_Camera_check_picture (T : Txt K mg) (h_Camera_is_within : FnD P w K mg base 1 T.a_Camera_is_within T.d_Camera_is_within ["self", "x", "y", "more"] sp_Camera_is_within) (h_is_point : FnD P w K mg base 2 T.a_is_point T.d_is_point ["thing", "low", "high"] sp_is_point) : FnD P w K mg base 3 T.a_Camera_check_picture T.d_Camera_check_picture ["self", "picture"] sp_Camera_check_picture :=
  fn_d T.F_Camera_check_picture sc_Camera_check_picture len_Camera_check_picture (pr_Camera_check_picture T h_Camera_is_within h_is_point) run_Camera_check_picture
theorem pr_Sky_standings (T : Txt K mg) (cdv : Value) (A : Around) (outer : List Env) (s : Shared) (H : Hp) (E : XK) (hr : Room 0 (A.deeper (envOfC "Sky.standings" (defScope s_Sky_standings) s.heap.objs.size T.a_Sky_standings cdv))) :
    PSsD (cxOf CX0 P w K mg base N_Sky_standings "Sky.standings" (defScope s_Sky_standings) T.a_Sky_standings cdv A outer s H E).nox (defBody s_Sky_standings) T_Sky_standings :=
  (pssd_cons (psd_set (i := 1) sc_Sky_standings.nd rfl (Or.inl rfl) (ped_lstM pad_nil))
      (pssd_cons (psd_for PassesOwn.never rfl (pid_seq (ped_fld T.cl_Sky T.na_Sky_turns (ped_name 0))) (pgd_name (i := 2) sc_Sky_standings.nd rfl (Or.inl rfl))
      (pssd_one (psd_for PassesOwn.never rfl (pid_range2 T.b_range (pad_cons (ped_ix (ixd hr.units) (ped_fld T.cl_Sky T.na_Sky_area (ped_name 0)) ped_int) (pad_cons (ped_op od_add (ped_ix (ixd hr.units) (ped_fld T.cl_Sky T.na_Sky_area (ped_name 0)) ped_int) ped_int) pad_nil))) (pgd_name (i := 3) sc_Sky_standings.nd rfl (Or.inl rfl))
      (pssd_one (psd_for PassesOwn.never rfl (pid_range2 T.b_range (pad_cons (ped_ix (ixd hr.units) (ped_fld T.cl_Sky T.na_Sky_area (ped_name 0)) ped_int) (pad_cons (ped_op od_add (ped_ix (ixd hr.units) (ped_fld T.cl_Sky T.na_Sky_area (ped_name 0)) ped_int) ped_int) pad_nil))) (pgd_name (i := 4) sc_Sky_standings.nd rfl (Or.inl rfl))
      (pssd_one (psd_expr (ped_m PySem.F.plainAttrs_list PySem.F.slot_list_append PySem.F.type_list_append md_append (ped_name 1) (pad_cons (ped_tup (pad_cons (ped_name 2) (pad_cons (ped_name 3) (pad_cons (ped_name 4) pad_nil)))) pad_nil)))))))))
      (pssd_frz 1 (pssd_one (psd_ret (ped_callTy cd_tuple T.b_tuple bt_tuple (pad_cons (ped_name 1) pad_nil)))))))
theorem ok_Sky_standings (T : Txt K mg) : FnD P w K mg base 1 T.a_Sky_standings T.d_Sky_standings ["self"] sp_Sky_standings :=
  fn_d T.F_Sky_standings sc_Sky_standings len_Sky_standings (pr_Sky_standings T) run_Sky_standings
theorem pr_Sky_place (T : Txt K mg) (h_turned : FnD P w K mg base 1 T.a_turned T.d_turned ["x", "y", "turn"] sp_turned) (cdv : Value) (A : Around) (outer : List Env) (s : Shared) (H : Hp) (E : XK) (hr : Room 1 (A.deeper (envOfC "Sky.place" (defScope s_Sky_place) s.heap.objs.size T.a_Sky_place cdv))) :
    PSsD (cxOf CX0 P w K mg base N_Sky_place "Sky.place" (defScope s_Sky_place) T.a_Sky_place cdv A outer s H E).nox (defBody s_Sky_place) T_Sky_place :=
  (pssd_cons (psd_asg (ped_call h_turned (hr.mono (by decide)) T.m_turned T.F_turned.kp T.bi_turned (pad_cons (ped_ix (ixd hr.units) (ped_name 1) ped_int) (pad_cons (ped_ix (ixd hr.units) (ped_name 1) ped_int) (pad_cons (ped_ix (ixd hr.units) (ped_name 2) ped_int) pad_nil)))) (pgd_tup rfl (pgsd_cons (pgd_name (i := 3) sc_Sky_place.nd rfl (Or.inl rfl)) (pgsd_cons (pgd_name (i := 4) sc_Sky_place.nd rfl (Or.inl rfl)) pgsd_nil))))
      (pssd_one (psd_ret (ped_tup (pad_cons (ped_op od_add (ped_name 3) (ped_ix (ixd hr.units) (ped_name 2) ped_int)) (pad_cons (ped_op od_add (ped_name 4) (ped_ix (ixd hr.units) (ped_name 2) ped_int)) (pad_cons (ped_ix (ixd hr.units) (ped_name 1) ped_int) pad_nil)))))))
theorem ok_Sky_place (T : Txt K mg) (h_turned : FnD P w K mg base 1 T.a_turned T.d_turned ["x", "y", "turn"] sp_turned) : FnD P w K mg base 2 T.a_Sky_place T.d_Sky_place ["self", "crater", "standing"] sp_Sky_place :=
  fn_d T.F_Sky_place sc_Sky_place len_Sky_place (pr_Sky_place T h_turned) run_Sky_place
theorem pr_Sky_places (T : Txt K mg) (h_Sky_place : FnD P w K mg base 2 T.a_Sky_place T.d_Sky_place ["self", "crater", "standing"] sp_Sky_place) (cdv : Value) (A : Around) (outer : List Env) (s : Shared) (H : Hp) (E : XK) (hr : Room 2 (A.deeper (envOfC "Sky.places" (defScope s_Sky_places) s.heap.objs.size T.a_Sky_places cdv))) :
    PSsD (cxOf CX0 P w K mg base N_Sky_places "Sky.places" (defScope s_Sky_places) T.a_Sky_places cdv A outer s H E).nox (defBody s_Sky_places) T_Sky_places :=
  (pssd_one (psd_ret (ped_fz (ped_lc (own := [("crater", 2)]) rfl sc_Sky_places.nd (pid_seq (ped_fld T.cl_Ground T.na_Ground_craters (ped_fld T.cl_Sky T.na_Sky_ground (ped_name 0)))) (blkOk_by (N := N_Sky_places) (sc := defScope s_Sky_places) (by decide +kernel)) (fun _ _ _ _ _ => (pgd_name (i := 2) sc_Sky_places.nd rfl (Or.inl rfl))) (fun _ _ _ _ _ => ptsd_nil) (fun _ _ _ _ _ => (ped_meth T.cl_Sky T.me_Sky_place h_Sky_place (hr.mono (by decide)) T.bi_Sky_place (ped_name 0) (pad_cons (ped_name 2) (pad_cons (ped_name 1) pad_nil))))))))
theorem ok_Sky_places (T : Txt K mg) (h_Sky_place : FnD P w K mg base 2 T.a_Sky_place T.d_Sky_place ["self", "crater", "standing"] sp_Sky_place) : FnD P w K mg base 3 T.a_Sky_places T.d_Sky_places ["self", "standing"] sp_Sky_places :=
  fn_d T.F_Sky_places sc_Sky_places len_Sky_places (pr_Sky_places T h_Sky_place) run_Sky_places
theorem pr_Sky_sure_craters (T : Txt K mg) (h_Camera_is_sure : FnD P w K mg base 2 T.a_Camera_is_sure T.d_Camera_is_sure ["self", "x", "y"] sp_Camera_is_sure) (h_Sky_places : FnD P w K mg base 3 T.a_Sky_places T.d_Sky_places ["self", "standing"] sp_Sky_places) (cdv : Value) (A : Around) (outer : List Env) (s : Shared) (H : Hp) (E : XK) (hr : Room 3 (A.deeper (envOfC "Sky.sure_craters" (defScope s_Sky_sure_craters) s.heap.objs.size T.a_Sky_sure_craters cdv))) :
    PSsD (cxOf CX0 P w K mg base N_Sky_sure_craters "Sky.sure_craters" (defScope s_Sky_sure_craters) T.a_Sky_sure_craters cdv A outer s H E).nox (defBody s_Sky_sure_craters) T_Sky_sure_craters :=
  (pssd_cons (psd_set (i := 2) sc_Sky_sure_craters.nd rfl (Or.inl rfl) (ped_meth T.cl_Sky T.me_Sky_places h_Sky_places (hr.mono (by decide)) T.bi_Sky_places (ped_name 0) (pad_cons (ped_name 1) pad_nil)))
      (pssd_one (psd_ret (ped_fz (ped_lc (own := [("number", 3), ("x", 4), ("y", 5), ("size", 6)]) rfl sc_Sky_sure_craters.nd (pid_enum T.b_enumerate (pad_cons (ped_name 2) pad_nil)) (blkOk_by (N := N_Sky_sure_craters) (sc := defScope s_Sky_sure_craters) (by decide +kernel)) (fun _ _ _ _ _ => (pgd_tup rfl (pgsd_cons (pgd_name (i := 3) sc_Sky_sure_craters.nd rfl (Or.inl rfl)) (pgsd_cons (pgd_tup rfl (pgsd_cons (pgd_name (i := 4) sc_Sky_sure_craters.nd rfl (Or.inl rfl)) (pgsd_cons (pgd_name (i := 5) sc_Sky_sure_craters.nd rfl (Or.inl rfl)) (pgsd_cons (pgd_name (i := 6) sc_Sky_sure_craters.nd rfl (Or.inl rfl)) pgsd_nil)))) pgsd_nil)))) (fun _ _ _ _ _ => (ptsd_one (ptd_val (ped_meth T.cl_Camera T.me_Camera_is_sure h_Camera_is_sure (hr.mono (by decide)) T.bi_Camera_is_sure (ped_fld T.cl_Sky T.na_Sky_camera (ped_name 0)) (pad_cons (ped_name 4) (pad_cons (ped_name 5) pad_nil)))))) (fun _ _ _ _ _ => (ped_name 3)))))))
theorem ok_Sky_sure_craters (T : Txt K mg) (h_Camera_is_sure : FnD P w K mg base 2 T.a_Camera_is_sure T.d_Camera_is_sure ["self", "x", "y"] sp_Camera_is_sure) (h_Sky_places : FnD P w K mg base 3 T.a_Sky_places T.d_Sky_places ["self", "standing"] sp_Sky_places) : FnD P w K mg base 4 T.a_Sky_sure_craters T.d_Sky_sure_craters ["self", "standing"] sp_Sky_sure_craters :=
  fn_d T.F_Sky_sure_craters sc_Sky_sure_craters len_Sky_sure_craters (pr_Sky_sure_craters T h_Camera_is_sure h_Sky_places) run_Sky_sure_craters
theorem pr_along (T : Txt K mg) (cdv : Value) (A : Around) (outer : List Env) (s : Shared) (H : Hp) (E : XK) (hr : Room 0 (A.deeper (envOfC "along" (defScope s_along) s.heap.objs.size T.a_along cdv))) :
    PSsD (cxOf CX0 P w K mg base N_along "along" (defScope s_along) T.a_along cdv A outer s H E).nox (defBody s_along) T_along :=
  (pssd_cons (psd_par (i := 3) (j := 4) rfl sc_along.nd rfl rfl (by decide) rfl rfl (pad_cons (ped_callTy cd_copyK T.b_dict bt_dict (pad_cons (ped_name 2) pad_nil)) (pad_cons (ped_name 1) pad_nil)) (by with_unfolding_all rfl))
      (pssd_cons (psd_setDcK (i := 5) hr.units (own := [("second", 8), ("now", 6)]) rfl sc_along.nd rfl rfl (sw_trueD rfl rfl rfl (by decide +kernel)) (pid_items (ped_name 2)) (blkOk_by (N := N_along) (sc := defScope s_along) (by decide +kernel)) (fun _ _ _ _ _ => (pgd_tup rfl (pgsd_cons (pgd_name (i := 8) sc_along.nd rfl (Or.inl rfl)) (pgsd_cons (pgd_name (i := 6) sc_along.nd rfl (Or.inl rfl)) pgsd_nil)))) (fun _ _ _ _ _ => ptsd_nil) (fun _ _ _ _ _ => (ped_name 6)) (fun _ _ _ _ _ => (ped_name 8)))
      (pssd_frz 5 (pssd_cons (psd_while PassesOwn.never (ptd_cmp od_isnot (ped_name 4) ped_non (nomark _))
      (pssd_cons (psd_set (i := 6) sc_along.nd rfl (Or.inl rfl) (ped_ix (ixd hr.units) (ped_name 0) (ped_name 4)))
      (pssd_cons (psd_set (i := 7) sc_along.nd rfl (Or.inl rfl) (ped_m PySem.F.plainAttrs_dict PySem.F.slot_dict_get PySem.F.type_dict_get (md_get1 hr.units) (ped_name 5) (pad_cons (ped_name 6) pad_nil)))
      (pssd_cons (psd_asg (ped_name 6) (pgd_sub (ped_name 3) (ped_name 4) (pset_d hr.units)))
      (pssd_one (psd_set (i := 4) sc_along.nd rfl (Or.inl rfl) (ped_name 7)))))))
      (pssd_one (psd_retF (ped_name 3)))))))
theorem ok_along (T : Txt K mg) : FnD P w K mg base 1 T.a_along T.d_along ["comers", "last", "pairs"] sp_along :=
  fn_d T.F_along sc_along len_along (pr_along T) run_along
theorem pr_augmented (T : Txt K mg) (h_along : FnD P w K mg base 1 T.a_along T.d_along ["comers", "last", "pairs"] sp_along) (cdv : Value) (A : Around) (outer : List Env) (s : Shared) (H : Hp) (E : XK) (hr : Room 1 (A.deeper (envOfC "augmented" (defScope s_augmented) s.heap.objs.size T.a_augmented cdv))) :
    PSsD (cxOf CX0 P w K mg base N_augmented "augmented" (defScope s_augmented) T.a_augmented cdv A outer s H E).nox (defBody s_augmented) T_augmented :=
  (pssd_cons (psd_par (i := 3) (j := 4) rfl sc_augmented.nd rfl rfl (by decide) rfl rfl (pad_cons ped_newK (pad_cons (ped_lstM (pad_cons (ped_name 1) pad_nil)) pad_nil)) (by with_unfolding_all rfl))
      (pssd_cons (psd_while PassesOwn.never (ptd_cmp (od_ne hr.units) (ped_name 4) (ped_lstF pad_nil) (nomark _))
      (pssd_cons (psd_set (i := 5) sc_augmented.nd rfl (Or.inl rfl) (ped_m PySem.F.plainAttrs_list PySem.F.slot_list_pop PySem.F.type_list_pop md_popAt (ped_name 4) (pad_cons ped_int pad_nil)))
      (pssd_one (psd_for PassesOwn.never rfl (pid_seq (ped_ix (ixd hr.units) (ped_name 0) (ped_name 5))) (pgd_name (i := 6) sc_augmented.nd rfl (Or.inl rfl))
      (pssd_one (psd_if (ptd_cmp (od_notin (DL.Room.u65 hr)) (ped_name 6) (ped_name 3) (by with_unfolding_all rfl))
      (pssd_cons (psd_asg (ped_name 5) (pgd_sub (ped_name 3) (ped_name 6) (pset_d hr.units)))
      (pssd_cons (psd_if (ptd_cmp (od_notin (DL.Room.u65 hr)) (ped_name 6) (ped_name 2) (by with_unfolding_all rfl))
      (pssd_frz 4 (pssd_frz 3 (pssd_one (psd_ret (ped_call h_along (hr.mono (by decide)) T.m_along T.F_along.kp T.bi_along (pad_cons (ped_name 3) (pad_cons (ped_name 6) (pad_cons (ped_name 2) pad_nil))))))))
      pssd_nil)
      (pssd_one (psd_expr (ped_m PySem.F.plainAttrs_list PySem.F.slot_list_append PySem.F.type_list_append md_append (ped_name 4) (pad_cons (ped_ix (ixd hr.units) (ped_name 2) (ped_name 6)) pad_nil))))))
      pssd_nil))))))
      (pssd_frz 4 (pssd_frz 3 (pssd_one (psd_ret ped_non))))))
theorem ok_augmented (T : Txt K mg) (h_along : FnD P w K mg base 1 T.a_along T.d_along ["comers", "last", "pairs"] sp_along) : FnD P w K mg base 2 T.a_augmented T.d_augmented ["nexts", "one", "pairs"] sp_augmented :=
  fn_d T.F_augmented sc_augmented len_augmented (pr_augmented T h_along) run_augmented
theorem pr_greatest (T : Txt K mg) (h_augmented : FnD P w K mg base 2 T.a_augmented T.d_augmented ["nexts", "one", "pairs"] sp_augmented) (cdv : Value) (A : Around) (outer : List Env) (s : Shared) (H : Hp) (E : XK) (hr : Room 2 (A.deeper (envOfC "greatest" (defScope s_greatest) s.heap.objs.size T.a_greatest cdv))) :
    PSsD (cxOf CX0 P w K mg base N_greatest "greatest" (defScope s_greatest) T.a_greatest cdv A outer s H E).nox (defBody s_greatest) T_greatest :=
  (pssd_cons (psd_set (i := 1) sc_greatest.nd rfl (Or.inl rfl) (ped_fz ped_newK))
      (pssd_cons (psd_for PassesOwn.never rfl (pid_range1 T.b_range (pad_cons (ped_callB cd_len T.b_len bt_len (pad_cons (ped_name 0) pad_nil)) pad_nil)) (pgd_name (i := 2) sc_greatest.nd rfl (Or.inl rfl))
      (pssd_cons (psd_set (i := 3) sc_greatest.nd rfl (Or.inl rfl) (ped_call h_augmented (hr.mono (by decide)) T.m_augmented T.F_augmented.kp T.bi_augmented (pad_cons (ped_name 0) (pad_cons (ped_name 2) (pad_cons (ped_name 1) pad_nil)))))
      (pssd_one (psd_if (ptd_cmp od_isnot (ped_name 3) ped_non (nomark _))
      (pssd_one (psd_set (i := 1) sc_greatest.nd rfl (Or.inl rfl) (ped_name 3)))
      pssd_nil))))
      (pssd_one (psd_ret (ped_fz (ped_dcK hr.units (own := [("other", 4), ("one", 2)]) rfl sc_greatest.nd (pid_seq (ped_fz (ped_sortedI hr.units rfl T.b_sorted bt_sorted (ped_name 1)))) (blkOk_by (N := N_greatest) (sc := defScope s_greatest) (by decide +kernel)) (fun _ _ _ _ _ => (pgd_tup rfl (pgsd_cons (pgd_name (i := 4) sc_greatest.nd rfl (Or.inl rfl)) (pgsd_cons (pgd_name (i := 2) sc_greatest.nd rfl (Or.inl rfl)) pgsd_nil)))) (fun _ _ _ _ _ => ptsd_nil) (fun _ _ _ _ _ => (ped_name 2)) (fun _ _ _ _ _ => (ped_name 4))))))))
theorem ok_greatest (T : Txt K mg) (h_augmented : FnD P w K mg base 2 T.a_augmented T.d_augmented ["nexts", "one", "pairs"] sp_augmented) : FnD P w K mg base 3 T.a_greatest T.d_greatest ["nexts"] sp_greatest :=
  fn_d T.F_greatest sc_greatest len_greatest (pr_greatest T h_augmented) run_greatest
theorem pr_short_lot (T : Txt K mg) (cdv : Value) (A : Around) (outer : List Env) (s : Shared) (H : Hp) (E : XK) (hr : Room 0 (A.deeper (envOfC "short_lot" (defScope s_short_lot) s.heap.objs.size T.a_short_lot cdv))) :
    PSsD (cxOf CX0 P w K mg base N_short_lot "short_lot" (defScope s_short_lot) T.a_short_lot cdv A outer s H E).nox (defBody s_short_lot) T_short_lot :=
  (pssd_cons (psd_setDcK (i := 2) hr.units (own := [("one", 6), ("other", 5)]) rfl sc_short_lot.nd rfl rfl (sw_trueD rfl rfl rfl (by decide +kernel)) (pid_items (ped_name 1)) (blkOk_by (N := N_short_lot) (sc := defScope s_short_lot) (by decide +kernel)) (fun _ _ _ _ _ => (pgd_tup rfl (pgsd_cons (pgd_name (i := 6) sc_short_lot.nd rfl (Or.inl rfl)) (pgsd_cons (pgd_name (i := 5) sc_short_lot.nd rfl (Or.inl rfl)) pgsd_nil)))) (fun _ _ _ _ _ => ptsd_nil) (fun _ _ _ _ _ => (ped_name 5)) (fun _ _ _ _ _ => (ped_name 6)))
      (pssd_frz 2 (pssd_cons (psd_setDcK (i := 3) hr.units (own := [("one", 6)]) rfl sc_short_lot.nd rfl rfl (sw_trueD rfl rfl rfl (by decide +kernel)) (pid_range1 T.b_range (pad_cons (ped_callB cd_len T.b_len bt_len (pad_cons (ped_name 0) pad_nil)) pad_nil)) (blkOk_by (N := N_short_lot) (sc := defScope s_short_lot) (by decide +kernel)) (fun _ _ _ _ _ => (pgd_name (i := 6) sc_short_lot.nd rfl (Or.inl rfl))) (fun _ _ _ _ _ => (ptsd_one (ptd_cmp (od_notin (DL.Room.u65 hr)) (ped_name 6) (ped_name 1) (by with_unfolding_all rfl)))) (fun _ _ _ _ _ => (ped_name 6)) (fun _ _ _ _ _ => ped_bl))
      (pssd_cons (psd_set (i := 4) sc_short_lot.nd rfl (Or.inl rfl) (ped_callTy (cd_listD rfl) T.b_list bt_list (pad_cons (ped_name 3) pad_nil)))
      (pssd_cons (psd_while PassesOwn.never (ptd_cmp (od_ne hr.units) (ped_name 4) (ped_lstF pad_nil) (nomark _))
      (pssd_one (psd_for PassesOwn.never rfl (pid_seq (ped_ix (ixd hr.units) (ped_name 0) (ped_m0 PySem.F.plainAttrs_list PySem.F.slot_list_pop PySem.F.type_list_pop md_pop (ped_name 4)))) (pgd_name (i := 5) sc_short_lot.nd rfl (Or.inl rfl))
      (pssd_cons (psd_set (i := 6) sc_short_lot.nd rfl (Or.inl rfl) (ped_ix (ixd hr.units) (ped_name 2) (ped_name 5)))
      (pssd_one (psd_if (ptd_cmp (od_notin (DL.Room.u65 hr)) (ped_name 6) (ped_name 3) (by with_unfolding_all rfl))
      (pssd_cons (psd_asg ped_bl (pgd_sub (ped_name 3) (ped_name 6) (pset_d hr.units)))
      (pssd_one (psd_expr (ped_m PySem.F.plainAttrs_list PySem.F.slot_list_append PySem.F.type_list_append md_append (ped_name 4) (pad_cons (ped_name 6) pad_nil)))))
      pssd_nil))))))
      (pssd_frz 4 (pssd_frz 3 (pssd_one (psd_ret (ped_fz (ped_callB (cd_sortedD hr.units rfl) T.b_sorted bt_sorted (pad_cons (ped_name 3) pad_nil))))))))))))
theorem ok_short_lot (T : Txt K mg) : FnD P w K mg base 1 T.a_short_lot T.d_short_lot ["nexts", "matching"] sp_short_lot :=
  fn_d T.F_short_lot sc_short_lot len_short_lot (pr_short_lot T) run_short_lot
theorem pr_turned_round (T : Txt K mg) (cdv : Value) (A : Around) (outer : List Env) (s : Shared) (H : Hp) (E : XK) (hr : Room 0 (A.deeper (envOfC "turned_round" (defScope s_turned_round) s.heap.objs.size T.a_turned_round cdv))) :
    PSsD (cxOf CX0 P w K mg base N_turned_round "turned_round" (defScope s_turned_round) T.a_turned_round cdv A outer s H E).nox (defBody s_turned_round) T_turned_round :=
  (pssd_cons (psd_setLc (i := 2) (own := [("other", 5)]) rfl sc_turned_round.nd rfl rfl (sw_true rfl rfl rfl (by decide +kernel)) (pid_range1 T.b_range (pad_cons (ped_name 1) pad_nil)) (blkOk_by (N := N_turned_round) (sc := defScope s_turned_round) (by decide +kernel)) (fun _ _ _ _ _ => (pgd_name (i := 5) sc_turned_round.nd rfl (Or.inl rfl))) (fun _ _ _ _ _ => ptsd_nil) (fun _ _ _ _ _ => (ped_lstM pad_nil)))
      (pssd_cons (psd_for PassesOwn.never rfl (pid_enum T.b_enumerate (pad_cons (ped_name 0) pad_nil)) (pgd_tup rfl (pgsd_cons (pgd_name (i := 3) sc_turned_round.nd rfl (Or.inl rfl)) (pgsd_cons (pgd_name (i := 4) sc_turned_round.nd rfl (Or.inl rfl)) pgsd_nil)))
      (pssd_one (psd_for PassesOwn.never rfl (pid_seq (ped_name 4)) (pgd_name (i := 5) sc_turned_round.nd rfl (Or.inl rfl))
      (pssd_one (psd_expr (ped_m PySem.F.plainAttrs_list PySem.F.slot_list_append PySem.F.type_list_append md_append (ped_ix (ixd hr.units) (ped_name 2) (ped_name 5)) (pad_cons (ped_name 3) pad_nil)))))))
      (pssd_frzL 2 (pssd_one (psd_retF (ped_name 2))))))
theorem ok_turned_round (T : Txt K mg) : FnD P w K mg base 1 T.a_turned_round T.d_turned_round ["nexts", "many"] sp_turned_round :=
  fn_d T.F_turned_round sc_turned_round len_turned_round (pr_turned_round T) run_turned_round
theorem pr_are_near (T : Txt K mg) (cdv : Value) (A : Around) (outer : List Env) (s : Shared) (H : Hp) (E : XK) (hr : Room 0 (A.deeper (envOfC "are_near" (defScope s_are_near) s.heap.objs.size T.a_are_near cdv))) :
    PSsD (cxOf CX0 P w K mg base N_are_near "are_near" (defScope s_are_near) T.a_are_near cdv A outer s H E).nox (defBody s_are_near) T_are_near :=
  (pssd_one (psd_ret (ped_and (ped_cmp (od_eq hr.units) (ped_ix (ixd hr.units) (ped_name 0) ped_int) (ped_ix (ixd hr.units) (ped_name 1) ped_int) (nomark _)) (ped_and (ped_cmp (od_le hr.units) (ped_callB cd_abs T.b_abs bt_abs (pad_cons (ped_op od_sub (ped_ix (ixd hr.units) (ped_name 0) ped_int) (ped_ix (ixd hr.units) (ped_name 1) ped_int)) pad_nil)) (ped_name 2) (nomark _)) (ped_one (ped_cmp (od_le hr.units) (ped_callB cd_abs T.b_abs bt_abs (pad_cons (ped_op od_sub (ped_ix (ixd hr.units) (ped_name 0) ped_int) (ped_ix (ixd hr.units) (ped_name 1) ped_int)) pad_nil)) (ped_name 2) (nomark _)))))))
theorem ok_are_near (T : Txt K mg) : FnD P w K mg base 1 T.a_are_near T.d_are_near ["point", "place", "error"] sp_are_near :=
  fn_d T.F_are_near sc_are_near len_are_near (pr_are_near T) run_are_near
theorem pr_nexts_of (T : Txt K mg) (h_Sky_places : FnD P w K mg base 3 T.a_Sky_places T.d_Sky_places ["self", "standing"] sp_Sky_places) (h_are_near : FnD P w K mg base 1 T.a_are_near T.d_are_near ["point", "place", "error"] sp_are_near) (cdv : Value) (A : Around) (outer : List Env) (s : Shared) (H : Hp) (E : XK) (hr : Room 3 (A.deeper (envOfC "nexts_of" (defScope s_nexts_of) s.heap.objs.size T.a_nexts_of cdv))) :
    PSsD (cxOf CX0 P w K mg base N_nexts_of "nexts_of" (defScope s_nexts_of) T.a_nexts_of cdv A outer s H E).nox (defBody s_nexts_of) T_nexts_of :=
  (pssd_cons (psd_asg (ped_tup (pad_cons (ped_meth T.cl_Sky T.me_Sky_places h_Sky_places (hr.mono (by decide)) T.bi_Sky_places (ped_name 0) (pad_cons (ped_name 2) pad_nil)) (pad_cons (ped_fld T.cl_Camera T.na_Camera_error (ped_fld T.cl_Sky T.na_Sky_camera (ped_name 0))) pad_nil))) (pgd_tup rfl (pgsd_cons (pgd_name (i := 3) sc_nexts_of.nd rfl (Or.inl rfl)) (pgsd_cons (pgd_name (i := 4) sc_nexts_of.nd rfl (Or.inr rfl)) pgsd_nil))))
      (pssd_cons (psd_set (i := 5) sc_nexts_of.nd rfl (Or.inl rfl) (ped_lstM pad_nil))
      (pssd_cons (psd_for PassesOwn.never rfl (pid_seq (ped_name 1)) (pgd_name (i := 6) sc_nexts_of.nd rfl (Or.inr rfl))
      (pssd_one (psd_expr (ped_m PySem.F.plainAttrs_list PySem.F.slot_list_append PySem.F.type_list_append md_append (ped_name 5) (pad_cons (ped_fz (ped_lc (own := [("number", 7), ("place", 8)]) rfl sc_nexts_of.nd (pid_enum T.b_enumerate (pad_cons (ped_name 3) pad_nil)) (blkOk_by (N := N_nexts_of) (sc := defScope s_nexts_of) (by decide +kernel)) (fun _ _ _ _ _ => (pgd_tup rfl (pgsd_cons (pgd_name (i := 7) sc_nexts_of.nd rfl (Or.inl rfl)) (pgsd_cons (pgd_name (i := 8) sc_nexts_of.nd rfl (Or.inl rfl)) pgsd_nil)))) (fun _ _ _ _ _ => (ptsd_one (ptd_val (ped_call h_are_near (hr.mono (by decide)) T.m_are_near T.F_are_near.kp T.bi_are_near (pad_cons (ped_name 6) (pad_cons (ped_name 8) (pad_cons (ped_name 4) pad_nil))))))) (fun _ _ _ _ _ => (ped_name 7)))) pad_nil)))))
      (pssd_one (psd_retF (ped_name 5))))))
theorem ok_nexts_of (T : Txt K mg) (h_Sky_places : FnD P w K mg base 3 T.a_Sky_places T.d_Sky_places ["self", "standing"] sp_Sky_places) (h_are_near : FnD P w K mg base 1 T.a_are_near T.d_are_near ["point", "place", "error"] sp_are_near) : FnD P w K mg base 4 T.a_nexts_of T.d_nexts_of ["sky", "picture", "standing"] sp_nexts_of :=
  fn_d T.F_nexts_of sc_nexts_of len_nexts_of (pr_nexts_of T h_Sky_places h_are_near) run_nexts_of
theorem pr_sure_nexts (T : Txt K mg) (h_Sky_sure_craters : FnD P w K mg base 4 T.a_Sky_sure_craters T.d_Sky_sure_craters ["self", "standing"] sp_Sky_sure_craters) (h_nexts_of : FnD P w K mg base 4 T.a_nexts_of T.d_nexts_of ["sky", "picture", "standing"] sp_nexts_of) (h_turned_round : FnD P w K mg base 1 T.a_turned_round T.d_turned_round ["nexts", "many"] sp_turned_round) (cdv : Value) (A : Around) (outer : List Env) (s : Shared) (H : Hp) (E : XK) (hr : Room 4 (A.deeper (envOfC "sure_nexts" (defScope s_sure_nexts) s.heap.objs.size T.a_sure_nexts cdv))) :
    PSsD (cxOf CX0 P w K mg base N_sure_nexts "sure_nexts" (defScope s_sure_nexts) T.a_sure_nexts cdv A outer s H E).nox (defBody s_sure_nexts) T_sure_nexts :=
  (pssd_cons (psd_set (i := 3) sc_sure_nexts.nd rfl (Or.inr rfl) (ped_call h_turned_round (hr.mono (by decide)) T.m_turned_round T.F_turned_round.kp T.bi_turned_round (pad_cons (ped_call h_nexts_of (hr.mono (by decide)) T.m_nexts_of T.F_nexts_of.kp T.bi_nexts_of (pad_cons (ped_name 0) (pad_cons (ped_name 1) (pad_cons (ped_name 2) pad_nil)))) (pad_cons (ped_callB cd_len T.b_len bt_len (pad_cons (ped_fld T.cl_Ground T.na_Ground_craters (ped_fld T.cl_Sky T.na_Sky_ground (ped_name 0))) pad_nil)) pad_nil))))
      (pssd_cons (psd_set (i := 4) sc_sure_nexts.nd rfl (Or.inl rfl) (ped_meth T.cl_Sky T.me_Sky_sure_craters h_Sky_sure_craters (hr.mono (by decide)) T.bi_Sky_sure_craters (ped_name 0) (pad_cons (ped_name 2) pad_nil)))
      (pssd_one (psd_ret (ped_tup (pad_cons (ped_name 4) (pad_cons (ped_fz (ped_lc (own := [("number", 5)]) rfl sc_sure_nexts.nd (pid_seq (ped_name 4)) (blkOk_by (N := N_sure_nexts) (sc := defScope s_sure_nexts) (by decide +kernel)) (fun _ _ _ _ _ => (pgd_name (i := 5) sc_sure_nexts.nd rfl (Or.inl rfl))) (fun _ _ _ _ _ => ptsd_nil) (fun _ _ _ _ _ => (ped_ix (ixd hr.units) (ped_name 3) (ped_name 5))))) pad_nil)))))))
theorem ok_sure_nexts (T : Txt K mg) (h_Sky_sure_craters : FnD P w K mg base 4 T.a_Sky_sure_craters T.d_Sky_sure_craters ["self", "standing"] sp_Sky_sure_craters) (h_nexts_of : FnD P w K mg base 4 T.a_nexts_of T.d_nexts_of ["sky", "picture", "standing"] sp_nexts_of) (h_turned_round : FnD P w K mg base 1 T.a_turned_round T.d_turned_round ["nexts", "many"] sp_turned_round) : FnD P w K mg base 5 T.a_sure_nexts T.d_sure_nexts ["sky", "picture", "standing"] sp_sure_nexts :=
  fn_d T.F_sure_nexts sc_sure_nexts len_sure_nexts (pr_sure_nexts T h_Sky_sure_craters h_nexts_of h_turned_round) run_sure_nexts
theorem pr_against (T : Txt K mg) (h_greatest : FnD P w K mg base 3 T.a_greatest T.d_greatest ["nexts"] sp_greatest) (h_nexts_of : FnD P w K mg base 4 T.a_nexts_of T.d_nexts_of ["sky", "picture", "standing"] sp_nexts_of) (h_short_lot : FnD P w K mg base 1 T.a_short_lot T.d_short_lot ["nexts", "matching"] sp_short_lot) (h_sure_nexts : FnD P w K mg base 5 T.a_sure_nexts T.d_sure_nexts ["sky", "picture", "standing"] sp_sure_nexts) (cdv : Value) (A : Around) (outer : List Env) (s : Shared) (H : Hp) (E : XK) (hr : Room 5 (A.deeper (envOfC "against" (defScope s_against) s.heap.objs.size T.a_against cdv))) :
    PSsD (cxOf CX0 P w K mg base N_against "against" (defScope s_against) T.a_against cdv A outer s H E).nox (defBody s_against) T_against :=
  (pssd_cons (psd_set (i := 3) sc_against.nd rfl (Or.inl rfl) (ped_call h_nexts_of (hr.mono (by decide)) T.m_nexts_of T.F_nexts_of.kp T.bi_nexts_of (pad_cons (ped_name 0) (pad_cons (ped_name 1) (pad_cons (ped_name 2) pad_nil)))))
      (pssd_cons (psd_set (i := 4) sc_against.nd rfl (Or.inl rfl) (ped_call h_greatest (hr.mono (by decide)) T.m_greatest T.F_greatest.kp T.bi_greatest (pad_cons (ped_name 3) pad_nil)))
      (pssd_cons (psd_if (ptd_cmp (od_lt hr.units) (ped_callB cd_len T.b_len bt_len (pad_cons (ped_name 4) pad_nil)) (ped_op od_sub (ped_callB cd_len T.b_len bt_len (pad_cons (ped_name 1) pad_nil)) (ped_fld T.cl_Camera T.na_Camera_false (ped_fld T.cl_Sky T.na_Sky_camera (ped_name 0)))) (nomark _))
      (pssd_one (psd_ret (ped_tup (pad_cons ped_str (pad_cons (ped_callTy cd_tuple T.b_tuple bt_tuple (pad_cons (ped_call h_short_lot (hr.mono (by decide)) T.m_short_lot T.F_short_lot.kp T.bi_short_lot (pad_cons (ped_name 3) (pad_cons (ped_name 4) pad_nil))) pad_nil)) pad_nil)))))
      pssd_nil)
      (pssd_cons (psd_asg (ped_call h_sure_nexts (hr.mono (by decide)) T.m_sure_nexts T.F_sure_nexts.kp T.bi_sure_nexts (pad_cons (ped_name 0) (pad_cons (ped_name 1) (pad_cons (ped_name 2) pad_nil)))) (pgd_tup rfl (pgsd_cons (pgd_name (i := 5) sc_against.nd rfl (Or.inr rfl)) (pgsd_cons (pgd_name (i := 6) sc_against.nd rfl (Or.inl rfl)) pgsd_nil))))
      (pssd_cons (psd_set (i := 7) sc_against.nd rfl (Or.inl rfl) (ped_call h_greatest (hr.mono (by decide)) T.m_greatest T.F_greatest.kp T.bi_greatest (pad_cons (ped_name 6) pad_nil)))
      (pssd_cons (psd_if (ptd_cmp (od_lt hr.units) (ped_callB cd_len T.b_len bt_len (pad_cons (ped_name 7) pad_nil)) (ped_op od_sub (ped_callB cd_len T.b_len bt_len (pad_cons (ped_name 5) pad_nil)) (ped_fld T.cl_Camera T.na_Camera_lost (ped_fld T.cl_Sky T.na_Sky_camera (ped_name 0)))) (nomark _))
      (pssd_one (psd_ret (ped_tup (pad_cons ped_str (pad_cons (ped_callTy cd_tuple T.b_tuple bt_tuple (pad_cons (ped_fz (ped_lc (own := [("at", 8)]) rfl sc_against.nd (pid_seq (ped_call h_short_lot (hr.mono (by decide)) T.m_short_lot T.F_short_lot.kp T.bi_short_lot (pad_cons (ped_name 6) (pad_cons (ped_name 7) pad_nil)))) (blkOk_by (N := N_against) (sc := defScope s_against) (by decide +kernel)) (fun _ _ _ _ _ => (pgd_name (i := 8) sc_against.nd rfl (Or.inl rfl))) (fun _ _ _ _ _ => ptsd_nil) (fun _ _ _ _ _ => (ped_ix (ixd hr.units) (ped_name 5) (ped_name 8))))) pad_nil)) pad_nil)))))
      pssd_nil)
      (pssd_one (psd_ret ped_non))))))))
theorem ok_against (T : Txt K mg) (h_greatest : FnD P w K mg base 3 T.a_greatest T.d_greatest ["nexts"] sp_greatest) (h_nexts_of : FnD P w K mg base 4 T.a_nexts_of T.d_nexts_of ["sky", "picture", "standing"] sp_nexts_of) (h_short_lot : FnD P w K mg base 1 T.a_short_lot T.d_short_lot ["nexts", "matching"] sp_short_lot) (h_sure_nexts : FnD P w K mg base 5 T.a_sure_nexts T.d_sure_nexts ["sky", "picture", "standing"] sp_sure_nexts) : FnD P w K mg base 6 T.a_against T.d_against ["sky", "picture", "standing"] sp_against :=
  fn_d T.F_against sc_against len_against (pr_against T h_greatest h_nexts_of h_short_lot h_sure_nexts) run_against
theorem pr_fits (T : Txt K mg) (h_against : FnD P w K mg base 6 T.a_against T.d_against ["sky", "picture", "standing"] sp_against) (cdv : Value) (A : Around) (outer : List Env) (s : Shared) (H : Hp) (E : XK) (hr : Room 6 (A.deeper (envOfC "fits" (defScope s_fits) s.heap.objs.size T.a_fits cdv))) :
    PSsD (cxOf CX0 P w K mg base N_fits "fits" (defScope s_fits) T.a_fits cdv A outer s H E).nox (defBody s_fits) T_fits :=
  (pssd_one (psd_ret (ped_cmp od_is (ped_call h_against (hr.mono (by decide)) T.m_against T.F_against.kp T.bi_against (pad_cons (ped_name 0) (pad_cons (ped_name 1) (pad_cons (ped_name 2) pad_nil)))) ped_non (nomark _))))
theorem ok_fits (T : Txt K mg) (h_against : FnD P w K mg base 6 T.a_against T.d_against ["sky", "picture", "standing"] sp_against) : FnD P w K mg base 7 T.a_fits T.d_fits ["sky", "picture", "standing"] sp_fits :=
  fn_d T.F_fits sc_fits len_fits (pr_fits T h_against) run_fits
theorem pr_plain_reading (T : Txt K mg) (h_Camera_check_picture : FnD P w K mg base 3 T.a_Camera_check_picture T.d_Camera_check_picture ["self", "picture"] sp_Camera_check_picture) (h_Sky_standings : FnD P w K mg base 1 T.a_Sky_standings T.d_Sky_standings ["self"] sp_Sky_standings) (h_fits : FnD P w K mg base 7 T.a_fits T.d_fits ["sky", "picture", "standing"] sp_fits) (cdv : Value) (A : Around) (outer : List Env) (s : Shared) (H : Hp) (E : XK) (hr : Room 7 (A.deeper (envOfC "plain_reading" (defScope s_plain_reading) s.heap.objs.size T.a_plain_reading cdv))) :
    PSsD (cxOf CX0 P w K mg base N_plain_reading "plain_reading" (defScope s_plain_reading) T.a_plain_reading cdv A outer s H E).nox (defBody s_plain_reading) T_plain_reading :=
  (pssd_cons (psd_expr (ped_meth T.cl_Camera T.me_Camera_check_picture h_Camera_check_picture (hr.mono (by decide)) T.bi_Camera_check_picture (ped_fld T.cl_Sky T.na_Sky_camera (ped_name 0)) (pad_cons (ped_name 1) pad_nil)))
      (pssd_one (psd_ret (ped_callTy cd_tuple T.b_tuple bt_tuple (pad_cons (ped_fz (ped_lc (own := [("standing", 2)]) rfl sc_plain_reading.nd (pid_seq (ped_meth0 T.cl_Sky T.me_Sky_standings h_Sky_standings (hr.mono (by decide)) T.bi_Sky_standings (ped_name 0))) (blkOk_by (N := N_plain_reading) (sc := defScope s_plain_reading) (by decide +kernel)) (fun _ _ _ _ _ => (pgd_name (i := 2) sc_plain_reading.nd rfl (Or.inl rfl))) (fun _ _ _ _ _ => (ptsd_one (ptd_val (ped_call h_fits (hr.mono (by decide)) T.m_fits T.F_fits.kp T.bi_fits (pad_cons (ped_name 0) (pad_cons (ped_name 1) (pad_cons (ped_name 2) pad_nil))))))) (fun _ _ _ _ _ => (ped_name 2)))) pad_nil)))))
theorem ok_plain_reading (T : Txt K mg) (h_Camera_check_picture : FnD P w K mg base 3 T.a_Camera_check_picture T.d_Camera_check_picture ["self", "picture"] sp_Camera_check_picture) (h_Sky_standings : FnD P w K mg base 1 T.a_Sky_standings T.d_Sky_standings ["self"] sp_Sky_standings) (h_fits : FnD P w K mg base 7 T.a_fits T.d_fits ["sky", "picture", "standing"] sp_fits) : FnD P w K mg base 8 T.a_plain_reading T.d_plain_reading ["sky", "picture"] sp_plain_reading :=
  fn_d T.F_plain_reading sc_plain_reading len_plain_reading (pr_plain_reading T h_Camera_check_picture h_Sky_standings h_fits) run_plain_reading
theorem pr_shifts_of (T : Txt K mg) (h_turned : FnD P w K mg base 1 T.a_turned T.d_turned ["x", "y", "turn"] sp_turned) (cdv : Value) (A : Around) (outer : List Env) (s : Shared) (H : Hp) (E : XK) (hr : Room 1 (A.deeper (envOfC "shifts_of" (defScope s_shifts_of) s.heap.objs.size T.a_shifts_of cdv))) :
    PSsD (cxOf CX0 P w K mg base N_shifts_of "shifts_of" (defScope s_shifts_of) T.a_shifts_of cdv A outer s H E).nox (defBody s_shifts_of) T_shifts_of :=
  (pssd_cons (psd_par3 (i := 3) (j := 4) (l := 5) rfl sc_shifts_of.nd rfl rfl rfl (by decide) (by decide) (by decide) rfl rfl rfl (pad_cons (ped_fld T.cl_Camera T.na_Camera_error (ped_fld T.cl_Sky T.na_Sky_camera (ped_name 0))) (pad_cons (ped_fld T.cl_Sky T.na_Sky_area (ped_name 0)) (pad_cons ped_newN pad_nil))) (by with_unfolding_all rfl))
      (pssd_cons (psd_for PassesOwn.never rfl (pid_seq (ped_fld T.cl_Ground T.na_Ground_craters (ped_fld T.cl_Sky T.na_Sky_ground (ped_name 0)))) (pgd_name (i := 6) sc_shifts_of.nd rfl (Or.inl rfl))
      (pssd_one (psd_if (ptd_cmp (od_eq hr.units) (ped_ix (ixd hr.units) (ped_name 6) ped_int) (ped_ix (ixd hr.units) (ped_name 1) ped_int) (nomark _))
      (pssd_cons (psd_asg (ped_call h_turned (hr.mono (by decide)) T.m_turned T.F_turned.kp T.bi_turned (pad_cons (ped_ix (ixd hr.units) (ped_name 6) ped_int) (pad_cons (ped_ix (ixd hr.units) (ped_name 6) ped_int) (pad_cons (ped_name 2) pad_nil)))) (pgd_tup rfl (pgsd_cons (pgd_name (i := 7) sc_shifts_of.nd rfl (Or.inl rfl)) (pgsd_cons (pgd_name (i := 8) sc_shifts_of.nd rfl (Or.inl rfl)) pgsd_nil))))
      (pssd_one (psd_for PassesOwn.never rfl (pid_range2 T.b_range (pad_cons (ped_callB (cd_max2 rfl) T.b_max bt_max (pad_cons (ped_ix (ixd hr.units) (ped_name 4) ped_int) (pad_cons (ped_op od_sub (ped_op od_sub (ped_ix (ixd hr.units) (ped_name 1) ped_int) (ped_name 7)) (ped_name 3)) pad_nil))) (pad_cons (ped_op od_add (ped_callB (cd_min2 rfl) T.b_min bt_min (pad_cons (ped_ix (ixd hr.units) (ped_name 4) ped_int) (pad_cons (ped_op od_add (ped_op od_sub (ped_ix (ixd hr.units) (ped_name 1) ped_int) (ped_name 7)) (ped_name 3)) pad_nil))) ped_int) pad_nil))) (pgd_name (i := 9) sc_shifts_of.nd rfl (Or.inl rfl))
      (pssd_one (psd_for PassesOwn.never rfl (pid_range2 T.b_range (pad_cons (ped_callB (cd_max2 rfl) T.b_max bt_max (pad_cons (ped_ix (ixd hr.units) (ped_name 4) ped_int) (pad_cons (ped_op od_sub (ped_op od_sub (ped_ix (ixd hr.units) (ped_name 1) ped_int) (ped_name 8)) (ped_name 3)) pad_nil))) (pad_cons (ped_op od_add (ped_callB (cd_min2 rfl) T.b_min bt_min (pad_cons (ped_ix (ixd hr.units) (ped_name 4) ped_int) (pad_cons (ped_op od_add (ped_op od_sub (ped_ix (ixd hr.units) (ped_name 1) ped_int) (ped_name 8)) (ped_name 3)) pad_nil))) ped_int) pad_nil))) (pgd_name (i := 10) sc_shifts_of.nd rfl (Or.inl rfl))
      (pssd_one (psd_asg ped_bl (pgd_sub (ped_name 5) (ped_tup (pad_cons (ped_name 9) (pad_cons (ped_name 10) pad_nil))) (pset_d hr.units)))))))))
      pssd_nil)))
      (pssd_one (psd_retF (ped_name 5)))))
theorem ok_shifts_of (T : Txt K mg) (h_turned : FnD P w K mg base 1 T.a_turned T.d_turned ["x", "y", "turn"] sp_turned) : FnD P w K mg base 2 T.a_shifts_of T.d_shifts_of ["sky", "point", "turn"] sp_shifts_of :=
  fn_d T.F_shifts_of sc_shifts_of len_shifts_of (pr_shifts_of T h_turned) run_shifts_of
theorem pr_votes_for (T : Txt K mg) (h_shifts_of : FnD P w K mg base 2 T.a_shifts_of T.d_shifts_of ["sky", "point", "turn"] sp_shifts_of) (cdv : Value) (A : Around) (outer : List Env) (s : Shared) (H : Hp) (E : XK) (hr : Room 2 (A.deeper (envOfC "votes_for" (defScope s_votes_for) s.heap.objs.size T.a_votes_for cdv))) :
    PSsD (cxOf CX0 P w K mg base N_votes_for "votes_for" (defScope s_votes_for) T.a_votes_for cdv A outer s H E).nox (defBody s_votes_for) T_votes_for :=
  (pssd_cons (psd_set (i := 3) sc_votes_for.nd rfl (Or.inl rfl) ped_newN)
      (pssd_cons (psd_for PassesOwn.never rfl (pid_seq (ped_name 1)) (pgd_name (i := 4) sc_votes_for.nd rfl (Or.inl rfl))
      (pssd_one (psd_for PassesOwn.never rfl (pid_keys (ped_call h_shifts_of (hr.mono (by decide)) T.m_shifts_of T.F_shifts_of.kp T.bi_shifts_of (pad_cons (ped_name 0) (pad_cons (ped_name 4) (pad_cons (ped_name 2) pad_nil))))) (pgd_name (i := 5) sc_votes_for.nd rfl (Or.inl rfl))
      (pssd_one (psd_asg (ped_op od_add (ped_m PySem.F.plainAttrs_dict PySem.F.slot_dict_get PySem.F.type_dict_get (md_get2 hr.units) (ped_name 3) (pad_cons (ped_name 5) (pad_cons ped_int pad_nil))) ped_int) (pgd_sub (ped_name 3) (ped_name 5) (pset_d hr.units)))))))
      (pssd_one (psd_retF (ped_name 3)))))
theorem ok_votes_for (T : Txt K mg) (h_shifts_of : FnD P w K mg base 2 T.a_shifts_of T.d_shifts_of ["sky", "point", "turn"] sp_shifts_of) : FnD P w K mg base 3 T.a_votes_for T.d_votes_for ["sky", "picture", "turn"] sp_votes_for :=
  fn_d T.F_votes_for sc_votes_for len_votes_for (pr_votes_for T h_shifts_of) run_votes_for
theorem pr_voted_reading (T : Txt K mg) (h_Camera_check_picture : FnD P w K mg base 3 T.a_Camera_check_picture T.d_Camera_check_picture ["self", "picture"] sp_Camera_check_picture) (h_Sky_standings : FnD P w K mg base 1 T.a_Sky_standings T.d_Sky_standings ["self"] sp_Sky_standings) (h_fits : FnD P w K mg base 7 T.a_fits T.d_fits ["sky", "picture", "standing"] sp_fits) (h_plain_reading : FnD P w K mg base 8 T.a_plain_reading T.d_plain_reading ["sky", "picture"] sp_plain_reading) (h_votes_for : FnD P w K mg base 3 T.a_votes_for T.d_votes_for ["sky", "picture", "turn"] sp_votes_for) (cdv : Value) (A : Around) (outer : List Env) (s : Shared) (H : Hp) (E : XK) (hr : Room 8 (A.deeper (envOfC "voted_reading" (defScope s_voted_reading) s.heap.objs.size T.a_voted_reading cdv))) :
    PSsD (cxOf CX0 P w K mg base N_voted_reading "voted_reading" (defScope s_voted_reading) T.a_voted_reading cdv A outer s H E).nox (defBody s_voted_reading) T_voted_reading :=
  (pssd_cons (psd_expr (ped_meth T.cl_Camera T.me_Camera_check_picture h_Camera_check_picture (hr.mono (by decide)) T.bi_Camera_check_picture (ped_fld T.cl_Sky T.na_Sky_camera (ped_name 0)) (pad_cons (ped_name 1) pad_nil)))
      (pssd_cons (psd_par3 (i := 2) (j := 3) (l := 4) rfl sc_voted_reading.nd rfl rfl rfl (by decide) (by decide) (by decide) rfl rfl rfl (pad_cons (ped_op od_sub (ped_callB cd_len T.b_len bt_len (pad_cons (ped_name 1) pad_nil)) (ped_fld T.cl_Camera T.na_Camera_false (ped_fld T.cl_Sky T.na_Sky_camera (ped_name 0)))) (pad_cons (ped_lstM pad_nil) (pad_cons ped_int pad_nil))) (by with_unfolding_all rfl))
      (pssd_cons (psd_if (ptd_cmp (od_le hr.units) (ped_name 2) ped_int (nomark _))
      (pssd_frz 3 (pssd_one (psd_ret (ped_tup (pad_cons (ped_call h_plain_reading (hr.mono (by decide)) T.m_plain_reading T.F_plain_reading.kp T.bi_plain_reading (pad_cons (ped_name 0) (pad_cons (ped_name 1) pad_nil))) (pad_cons (ped_callB cd_len T.b_len bt_len (pad_cons (ped_meth0 T.cl_Sky T.me_Sky_standings h_Sky_standings (hr.mono (by decide)) T.bi_Sky_standings (ped_name 0)) pad_nil)) pad_nil))))))
      pssd_nil)
      (pssd_cons (psd_for PassesOwn.never rfl (pid_seq (ped_fld T.cl_Sky T.na_Sky_turns (ped_name 0))) (pgd_name (i := 5) sc_voted_reading.nd rfl (Or.inl rfl))
      (pssd_cons (psd_set (i := 6) sc_voted_reading.nd rfl (Or.inl rfl) (ped_call h_votes_for (hr.mono (by decide)) T.m_votes_for T.F_votes_for.kp T.bi_votes_for (pad_cons (ped_name 0) (pad_cons (ped_name 1) (pad_cons (ped_name 5) pad_nil)))))
      (pssd_one (psd_for PassesOwn.never rfl (pid_seq (ped_fz (ped_callB (cd_sortedD hr.units rfl) T.b_sorted bt_sorted (pad_cons (ped_name 6) pad_nil)))) (pgd_name (i := 7) sc_voted_reading.nd rfl (Or.inl rfl))
      (pssd_one (psd_if (ptd_cmp (od_ge hr.units) (ped_ix (ixd hr.units) (ped_name 6) (ped_name 7)) (ped_name 2) (nomark _))
      (pssd_cons (psd_set (i := 4) sc_voted_reading.nd rfl (Or.inl rfl) (ped_op od_add (ped_name 4) ped_int))
      (pssd_one (psd_if (ptd_val (ped_call h_fits (hr.mono (by decide)) T.m_fits T.F_fits.kp T.bi_fits (pad_cons (ped_name 0) (pad_cons (ped_name 1) (pad_cons (ped_tup (pad_cons (ped_name 5) (pad_star (ped_name 7) pad_nil))) pad_nil)))))
      (pssd_one (psd_expr (ped_m PySem.F.plainAttrs_list PySem.F.slot_list_append PySem.F.type_list_append md_append (ped_name 3) (pad_cons (ped_tup (pad_cons (ped_name 5) (pad_star (ped_name 7) pad_nil))) pad_nil))))
      pssd_nil)))
      pssd_nil))))))
      (pssd_frz 3 (pssd_one (psd_ret (ped_tup (pad_cons (ped_callTy cd_tuple T.b_tuple bt_tuple (pad_cons (ped_name 3) pad_nil)) (pad_cons (ped_name 4) pad_nil))))))))))
theorem ok_voted_reading (T : Txt K mg) (h_Camera_check_picture : FnD P w K mg base 3 T.a_Camera_check_picture T.d_Camera_check_picture ["self", "picture"] sp_Camera_check_picture) (h_Sky_standings : FnD P w K mg base 1 T.a_Sky_standings T.d_Sky_standings ["self"] sp_Sky_standings) (h_fits : FnD P w K mg base 7 T.a_fits T.d_fits ["sky", "picture", "standing"] sp_fits) (h_plain_reading : FnD P w K mg base 8 T.a_plain_reading T.d_plain_reading ["sky", "picture"] sp_plain_reading) (h_votes_for : FnD P w K mg base 3 T.a_votes_for T.d_votes_for ["sky", "picture", "turn"] sp_votes_for) : FnD P w K mg base 9 T.a_voted_reading T.d_voted_reading ["sky", "picture"] sp_voted_reading :=
  fn_d T.F_voted_reading sc_voted_reading len_voted_reading (pr_voted_reading T h_Camera_check_picture h_Sky_standings h_fits h_plain_reading h_votes_for) run_voted_reading
theorem pr__law_ground (T : Txt K mg) (h_Ground___init__ : FnD P w K mg base 3 T.a_Ground___init__ T.d_Ground___init__ ["self", "craters"] sp_Ground___init__) (h__law_take : FnD P w K mg base 2 T.a__law_take T.d__law_take ["draw", "many"] sp__law_take) (cdv : Value) (A : Around) (outer : List Env) (s : Shared) (H : Hp) (E : XK) (hr : Room 4 (A.deeper (envOfC "_law_ground" (defScope s__law_ground) s.heap.objs.size T.a__law_ground cdv))) :
    PSsD (cxOf CX0 P w K mg base N__law_ground "_law_ground" (defScope s__law_ground) T.a__law_ground cdv A outer s H E).nox (defBody s__law_ground) T__law_ground :=
  (pssd_cons (psd_set (i := 3) sc__law_ground.nd rfl (Or.inl rfl) (ped_lstM pad_nil))
      (pssd_cons (psd_for PassesOwn.never rfl (pid_range1 T.b_range (pad_cons (ped_call h__law_take (hr.mono (by decide)) T.m__law_take T.F__law_take.kp T.bi__law_take (pad_cons (ped_name 0) (pad_cons (ped_op od_add (ped_name 1) ped_int) pad_nil))) pad_nil)) (pgd_name (i := 4) sc__law_ground.nd rfl (Or.inl rfl))
      (pssd_cons (psd_set (i := 5) sc__law_ground.nd rfl (Or.inl rfl) (ped_tup (pad_cons (ped_op od_sub (ped_call h__law_take (hr.mono (by decide)) T.m__law_take T.F__law_take.kp T.bi__law_take (pad_cons (ped_name 0) (pad_cons (ped_name 2) pad_nil))) ped_int) (pad_cons (ped_op od_sub (ped_call h__law_take (hr.mono (by decide)) T.m__law_take T.F__law_take.kp T.bi__law_take (pad_cons (ped_name 0) (pad_cons (ped_name 2) pad_nil))) ped_int) (pad_cons (ped_op od_add ped_int (ped_call h__law_take (hr.mono (by decide)) T.m__law_take T.F__law_take.kp T.bi__law_take (pad_cons (ped_name 0) (pad_cons ped_int pad_nil)))) pad_nil)))))
      (pssd_one (psd_if (ptd_cmp (od_notin (DL.Room.u65 hr)) (ped_name 5) (ped_name 3) (by with_unfolding_all rfl))
      (pssd_one (psd_expr (ped_m PySem.F.plainAttrs_list PySem.F.slot_list_append PySem.F.type_list_append md_append (ped_name 3) (pad_cons (ped_name 5) pad_nil))))
      pssd_nil))))
      (pssd_frz 3 (pssd_one (psd_ret (ped_fz (ped_make T.mk_Ground h_Ground___init__ (hr.mono (by decide)) T.mg_Ground T.bi_Ground___init__ (pad_cons (ped_name 3) pad_nil))))))))
theorem ok__law_ground (T : Txt K mg) (h_Ground___init__ : FnD P w K mg base 3 T.a_Ground___init__ T.d_Ground___init__ ["self", "craters"] sp_Ground___init__) (h__law_take : FnD P w K mg base 2 T.a__law_take T.d__law_take ["draw", "many"] sp__law_take) : FnD P w K mg base 5 T.a__law_ground T.d__law_ground ["draw", "most", "side"] sp__law_ground :=
  fn_d T.F__law_ground sc__law_ground len__law_ground (pr__law_ground T h_Ground___init__ h__law_take) run__law_ground
theorem pr__law_camera (T : Txt K mg) (h_Camera___init__ : FnD P w K mg base 2 T.a_Camera___init__ T.d_Camera___init__ ["self", "width", "height", "error", "false", "lost"] sp_Camera___init__) (h__law_take : FnD P w K mg base 2 T.a__law_take T.d__law_take ["draw", "many"] sp__law_take) (cdv : Value) (A : Around) (outer : List Env) (s : Shared) (H : Hp) (E : XK) (hr : Room 3 (A.deeper (envOfC "_law_camera" (defScope s__law_camera) s.heap.objs.size T.a__law_camera cdv))) :
    PSsD (cxOf CX0 P w K mg base N__law_camera "_law_camera" (defScope s__law_camera) T.a__law_camera cdv A outer s H E).nox (defBody s__law_camera) T__law_camera :=
  (pssd_one (psd_ret (ped_fz (ped_make T.mk_Camera h_Camera___init__ (hr.mono (by decide)) T.mg_Camera T.bi_Camera___init__ (pad_cons (ped_op od_add ped_int (ped_call h__law_take (hr.mono (by decide)) T.m__law_take T.F__law_take.kp T.bi__law_take (pad_cons (ped_name 0) (pad_cons ped_int pad_nil)))) (pad_cons (ped_op od_add ped_int (ped_call h__law_take (hr.mono (by decide)) T.m__law_take T.F__law_take.kp T.bi__law_take (pad_cons (ped_name 0) (pad_cons ped_int pad_nil)))) (pad_cons (ped_call h__law_take (hr.mono (by decide)) T.m__law_take T.F__law_take.kp T.bi__law_take (pad_cons (ped_name 0) (pad_cons ped_int pad_nil))) (pad_cons (ped_call h__law_take (hr.mono (by decide)) T.m__law_take T.F__law_take.kp T.bi__law_take (pad_cons (ped_name 0) (pad_cons ped_int pad_nil))) (pad_cons (ped_call h__law_take (hr.mono (by decide)) T.m__law_take T.F__law_take.kp T.bi__law_take (pad_cons (ped_name 0) (pad_cons ped_int pad_nil))) pad_nil)))))))))
theorem ok__law_camera (T : Txt K mg) (h_Camera___init__ : FnD P w K mg base 2 T.a_Camera___init__ T.d_Camera___init__ ["self", "width", "height", "error", "false", "lost"] sp_Camera___init__) (h__law_take : FnD P w K mg base 2 T.a__law_take T.d__law_take ["draw", "many"] sp__law_take) : FnD P w K mg base 4 T.a__law_camera T.d__law_camera ["draw"] sp__law_camera :=
  fn_d T.F__law_camera sc__law_camera len__law_camera (pr__law_camera T h_Camera___init__ h__law_take) run__law_camera
theorem pr__law_sky (T : Txt K mg) (h_Sky___init__ : FnD P w K mg base 2 T.a_Sky___init__ T.d_Sky___init__ ["self", "ground", "camera", "turns", "area"] sp_Sky___init__) (h__law_camera : FnD P w K mg base 4 T.a__law_camera T.d__law_camera ["draw"] sp__law_camera) (h__law_ground : FnD P w K mg base 5 T.a__law_ground T.d__law_ground ["draw", "most", "side"] sp__law_ground) (h__law_pick : FnD P w K mg base 3 T.a__law_pick T.d__law_pick ["draw", "items"] sp__law_pick) (h__law_take : FnD P w K mg base 2 T.a__law_take T.d__law_take ["draw", "many"] sp__law_take) (cdv : Value) (A : Around) (outer : List Env) (s : Shared) (H : Hp) (E : XK) (hr : Room 5 (A.deeper (envOfC "_law_sky" (defScope s__law_sky) s.heap.objs.size T.a__law_sky cdv))) :
    PSsD (cxOf CX0 P w K mg base N__law_sky "_law_sky" (defScope s__law_sky) T.a__law_sky cdv A outer s H E).nox (defBody s__law_sky) T__law_sky :=
  (pssd_cons (psd_par (i := 2) (j := 3) rfl sc__law_sky.nd rfl rfl (by decide) rfl rfl (pad_cons (ped_call h__law_ground (hr.mono (by decide)) T.m__law_ground T.F__law_ground.kp T.bi__law_ground (pad_cons (ped_name 0) (pad_cons (ped_name 1) (pad_cons ped_int pad_nil)))) (pad_cons (ped_call h__law_camera (hr.mono (by decide)) T.m__law_camera T.F__law_camera.kp T.bi__law_camera (pad_cons (ped_name 0) pad_nil)) pad_nil)) (by with_unfolding_all rfl))
      (pssd_cons (psd_set (i := 4) sc__law_sky.nd rfl (Or.inl rfl) (ped_call h__law_pick (hr.mono (by decide)) T.m__law_pick T.F__law_pick.kp T.bi__law_pick (pad_cons (ped_name 0) (pad_cons (ped_lstF (pad_cons (ped_tup (pad_cons ped_int pad_nil)) (pad_cons (ped_tup (pad_cons ped_int (pad_cons ped_int pad_nil))) (pad_cons (ped_tup (pad_cons ped_int (pad_cons ped_int pad_nil))) (pad_cons (ped_tup (pad_cons ped_int (pad_cons ped_int pad_nil))) (pad_cons (ped_tup (pad_cons ped_int (pad_cons ped_int (pad_cons ped_int (pad_cons ped_int pad_nil))))) pad_nil)))))) pad_nil))))
      (pssd_cons (psd_par (i := 5) (j := 6) rfl sc__law_sky.nd rfl rfl (by decide) rfl rfl (pad_cons (ped_op od_sub ped_int (ped_call h__law_take (hr.mono (by decide)) T.m__law_take T.F__law_take.kp T.bi__law_take (pad_cons (ped_name 0) (pad_cons ped_int pad_nil)))) (pad_cons (ped_op od_sub ped_int (ped_call h__law_take (hr.mono (by decide)) T.m__law_take T.F__law_take.kp T.bi__law_take (pad_cons (ped_name 0) (pad_cons ped_int pad_nil)))) pad_nil)) (by with_unfolding_all rfl))
      (pssd_one (psd_ret (ped_fz (ped_make T.mk_Sky h_Sky___init__ (hr.mono (by decide)) T.mg_Sky T.bi_Sky___init__ (pad_cons (ped_name 2) (pad_cons (ped_name 3) (pad_cons (ped_name 4) (pad_cons (ped_tup (pad_cons (ped_name 5) (pad_cons (ped_op od_add (ped_name 5) (ped_call h__law_take (hr.mono (by decide)) T.m__law_take T.F__law_take.kp T.bi__law_take (pad_cons (ped_name 0) (pad_cons ped_int pad_nil)))) (pad_cons (ped_name 6) (pad_cons (ped_op od_add (ped_name 6) (ped_call h__law_take (hr.mono (by decide)) T.m__law_take T.F__law_take.kp T.bi__law_take (pad_cons (ped_name 0) (pad_cons ped_int pad_nil)))) pad_nil))))) pad_nil)))))))))))
theorem ok__law_sky (T : Txt K mg) (h_Sky___init__ : FnD P w K mg base 2 T.a_Sky___init__ T.d_Sky___init__ ["self", "ground", "camera", "turns", "area"] sp_Sky___init__) (h__law_camera : FnD P w K mg base 4 T.a__law_camera T.d__law_camera ["draw"] sp__law_camera) (h__law_ground : FnD P w K mg base 5 T.a__law_ground T.d__law_ground ["draw", "most", "side"] sp__law_ground) (h__law_pick : FnD P w K mg base 3 T.a__law_pick T.d__law_pick ["draw", "items"] sp__law_pick) (h__law_take : FnD P w K mg base 2 T.a__law_take T.d__law_take ["draw", "many"] sp__law_take) : FnD P w K mg base 6 T.a__law_sky T.d__law_sky ["draw", "most"] sp__law_sky :=
  fn_d T.F__law_sky sc__law_sky len__law_sky (pr__law_sky T h_Sky___init__ h__law_camera h__law_ground h__law_pick h__law_take) run__law_sky
theorem pr__law_spots (T : Txt K mg) (cdv : Value) (A : Around) (outer : List Env) (s : Shared) (H : Hp) (E : XK) (hr : Room 0 (A.deeper (envOfC "_law_spots" (defScope s__law_spots) s.heap.objs.size T.a__law_spots cdv))) :
    PSsD (cxOf CX0 P w K mg base N__law_spots "_law_spots" (defScope s__law_spots) T.a__law_spots cdv A outer s H E).nox (defBody s__law_spots) T__law_spots :=
  (pssd_cons (psd_set (i := 1) sc__law_spots.nd rfl (Or.inl rfl) (ped_lstM pad_nil))
      (pssd_cons (psd_for PassesOwn.never rfl (pid_range1 T.b_range (pad_cons (ped_fld T.cl_Camera T.na_Camera_width (ped_name 0)) pad_nil)) (pgd_name (i := 2) sc__law_spots.nd rfl (Or.inl rfl))
      (pssd_one (psd_for PassesOwn.never rfl (pid_range1 T.b_range (pad_cons (ped_fld T.cl_Camera T.na_Camera_height (ped_name 0)) pad_nil)) (pgd_name (i := 3) sc__law_spots.nd rfl (Or.inl rfl))
      (pssd_one (psd_aug (i := 1) sc__law_spots.nd rfl (Or.inl rfl) (ped_lstF (pad_cons (ped_tup (pad_cons (ped_name 2) (pad_cons (ped_name 3) (pad_cons ped_int pad_nil)))) (pad_cons (ped_tup (pad_cons (ped_name 2) (pad_cons (ped_name 3) (pad_cons ped_int pad_nil)))) pad_nil))) iod_add)))))
      (pssd_one (psd_retF (ped_name 1)))))
theorem ok__law_spots (T : Txt K mg) : FnD P w K mg base 1 T.a__law_spots T.d__law_spots ["camera"] sp__law_spots :=
  fn_d T.F__law_spots sc__law_spots len__law_spots (pr__law_spots T) run__law_spots
theorem pr__law_picture (T : Txt K mg) (h_Sky_places : FnD P w K mg base 3 T.a_Sky_places T.d_Sky_places ["self", "standing"] sp_Sky_places) (h__law_pick : FnD P w K mg base 3 T.a__law_pick T.d__law_pick ["draw", "items"] sp__law_pick) (h__law_spots : FnD P w K mg base 1 T.a__law_spots T.d__law_spots ["camera"] sp__law_spots) (h__law_take : FnD P w K mg base 2 T.a__law_take T.d__law_take ["draw", "many"] sp__law_take) (cdv : Value) (A : Around) (outer : List Env) (s : Shared) (H : Hp) (E : XK) (hr : Room 3 (A.deeper (envOfC "_law_picture" (defScope s__law_picture) s.heap.objs.size T.a__law_picture cdv))) :
    PSsD (cxOf CX0 P w K mg base N__law_picture "_law_picture" (defScope s__law_picture) T.a__law_picture cdv A outer s H E).nox (defBody s__law_picture) T__law_picture :=
  (pssd_cons (psd_par (i := 3) (j := 4) rfl sc__law_picture.nd rfl rfl (by decide) rfl rfl (pad_cons (ped_fld T.cl_Sky T.na_Sky_camera (ped_name 1)) (pad_cons (ped_lstM pad_nil) pad_nil)) (by with_unfolding_all rfl))
      (pssd_cons (psd_for PassesOwn.never rfl (pid_seq (ped_meth T.cl_Sky T.me_Sky_places h_Sky_places (hr.mono (by decide)) T.bi_Sky_places (ped_name 1) (pad_cons (ped_name 2) pad_nil))) (pgd_tup rfl (pgsd_cons (pgd_name (i := 5) sc__law_picture.nd rfl (Or.inl rfl)) (pgsd_cons (pgd_name (i := 6) sc__law_picture.nd rfl (Or.inl rfl)) (pgsd_cons (pgd_name (i := 7) sc__law_picture.nd rfl (Or.inl rfl)) pgsd_nil))))
      (pssd_cons (psd_set (i := 8) sc__law_picture.nd rfl (Or.inl rfl) (ped_tup (pad_cons (ped_op od_sub (ped_op od_add (ped_name 5) (ped_call h__law_take (hr.mono (by decide)) T.m__law_take T.F__law_take.kp T.bi__law_take (pad_cons (ped_name 0) (pad_cons (ped_op od_add (ped_op od_mul ped_int (ped_fld T.cl_Camera T.na_Camera_error (ped_name 3))) ped_int) pad_nil)))) (ped_fld T.cl_Camera T.na_Camera_error (ped_name 3))) (pad_cons (ped_op od_sub (ped_op od_add (ped_name 6) (ped_call h__law_take (hr.mono (by decide)) T.m__law_take T.F__law_take.kp T.bi__law_take (pad_cons (ped_name 0) (pad_cons (ped_op od_add (ped_op od_mul ped_int (ped_fld T.cl_Camera T.na_Camera_error (ped_name 3))) ped_int) pad_nil)))) (ped_fld T.cl_Camera T.na_Camera_error (ped_name 3))) (pad_cons (ped_name 7) pad_nil)))))
      (pssd_one (psd_if (ptd_w (pwd_and (ptd_chain (od_le hr.units) (od_lt hr.units) ped_int (ped_ix (ixd hr.units) (ped_name 8) ped_int) (ped_fld T.cl_Camera T.na_Camera_width (ped_name 3))) (pwd_and (ptd_chain (od_le hr.units) (od_lt hr.units) ped_int (ped_ix (ixd hr.units) (ped_name 8) ped_int) (ped_fld T.cl_Camera T.na_Camera_height (ped_name 3))) (pwd_and1 (ptd_cmp (od_gt hr.units) (ped_call h__law_take (hr.mono (by decide)) T.m__law_take T.F__law_take.kp T.bi__law_take (pad_cons (ped_name 0) (pad_cons ped_int pad_nil))) ped_int (nomark _))))))
      (pssd_one (psd_expr (ped_m PySem.F.plainAttrs_list PySem.F.slot_list_append PySem.F.type_list_append md_append (ped_name 4) (pad_cons (ped_name 8) pad_nil))))
      pssd_nil))))
      (pssd_cons (psd_for PassesOwn.never rfl (pid_range1 T.b_range (pad_cons (ped_call h__law_take (hr.mono (by decide)) T.m__law_take T.F__law_take.kp T.bi__law_take (pad_cons (ped_name 0) (pad_cons (ped_op od_add (ped_fld T.cl_Camera T.na_Camera_false (ped_name 3)) ped_int) pad_nil))) pad_nil)) (pgd_name (i := 9) sc__law_picture.nd rfl (Or.inl rfl))
      (pssd_one (psd_expr (ped_m PySem.F.plainAttrs_list PySem.F.slot_list_append PySem.F.type_list_append md_append (ped_name 4) (pad_cons (ped_call h__law_pick (hr.mono (by decide)) T.m__law_pick T.F__law_pick.kp T.bi__law_pick (pad_cons (ped_name 0) (pad_cons (ped_call h__law_spots (hr.mono (by decide)) T.m__law_spots T.F__law_spots.kp T.bi__law_spots (pad_cons (ped_name 3) pad_nil)) pad_nil))) pad_nil)))))
      (pssd_cons (psd_if (ptd_w (pwd_and (ptd_cmp (od_ne hr.units) (ped_name 4) (ped_lstF pad_nil) (nomark _)) (pwd_and1 (ptd_cmp (od_eq hr.units) (ped_call h__law_take (hr.mono (by decide)) T.m__law_take T.F__law_take.kp T.bi__law_take (pad_cons (ped_name 0) (pad_cons ped_int pad_nil))) ped_int (nomark _)))))
      (pssd_one (psd_expr (ped_m PySem.F.plainAttrs_list PySem.F.slot_list_append PySem.F.type_list_append md_append (ped_name 4) (pad_cons (ped_ix (ixd hr.units) (ped_name 4) ped_int) pad_nil))))
      pssd_nil)
      (pssd_cons (psd_set (i := 10) sc__law_picture.nd rfl (Or.inl rfl) (ped_call h__law_take (hr.mono (by decide)) T.m__law_take T.F__law_take.kp T.bi__law_take (pad_cons (ped_name 0) (pad_cons (ped_op od_add (ped_callB cd_len T.b_len bt_len (pad_cons (ped_name 4) pad_nil)) ped_int) pad_nil))))
      (pssd_frz 4 (pssd_one (psd_ret (ped_callTy cd_tuple T.b_tuple bt_tuple (pad_cons (ped_op od_add (ped_slice sld (ped_name 4) (pod_some (ped_name 10)) pod_none) (ped_slice sld (ped_name 4) pod_none (pod_some (ped_name 10)))) pad_nil))))))))))
theorem ok__law_picture (T : Txt K mg) (h_Sky_places : FnD P w K mg base 3 T.a_Sky_places T.d_Sky_places ["self", "standing"] sp_Sky_places) (h__law_pick : FnD P w K mg base 3 T.a__law_pick T.d__law_pick ["draw", "items"] sp__law_pick) (h__law_spots : FnD P w K mg base 1 T.a__law_spots T.d__law_spots ["camera"] sp__law_spots) (h__law_take : FnD P w K mg base 2 T.a__law_take T.d__law_take ["draw", "many"] sp__law_take) : FnD P w K mg base 4 T.a__law_picture T.d__law_picture ["draw", "sky", "standing"] sp__law_picture :=
  fn_d T.F__law_picture sc__law_picture len__law_picture (pr__law_picture T h_Sky_places h__law_pick h__law_spots h__law_take) run__law_picture
theorem pr_law (T : Txt K mg) (h_Sky_places : FnD P w K mg base 3 T.a_Sky_places T.d_Sky_places ["self", "standing"] sp_Sky_places) (h_Sky_standings : FnD P w K mg base 1 T.a_Sky_standings T.d_Sky_standings ["self"] sp_Sky_standings) (h__law_pick : FnD P w K mg base 3 T.a__law_pick T.d__law_pick ["draw", "items"] sp__law_pick) (h__law_picture : FnD P w K mg base 4 T.a__law_picture T.d__law_picture ["draw", "sky", "standing"] sp__law_picture) (h__law_sky : FnD P w K mg base 6 T.a__law_sky T.d__law_sky ["draw", "most"] sp__law_sky) (h_plain_reading : FnD P w K mg base 8 T.a_plain_reading T.d_plain_reading ["sky", "picture"] sp_plain_reading) (h_voted_reading : FnD P w K mg base 9 T.a_voted_reading T.d_voted_reading ["sky", "picture"] sp_voted_reading) (h_votes_for : FnD P w K mg base 3 T.a_votes_for T.d_votes_for ["sky", "picture", "turn"] sp_votes_for) (cdv : Value) (A : Around) (outer : List Env) (s : Shared) (H : Hp) (E : XK) (hr : Room 9 (A.deeper (envOfC "law" (defScope s_law) s.heap.objs.size T.a_law cdv))) :
    PSsD (cxOf CX0 P w K mg base N_law "law" (defScope s_law) T.a_law cdv A outer s H E).nox (defBody s_law) T_law :=
  (pssd_cons (psd_set (i := 1) sc_law.nd rfl (Or.inl rfl) (ped_lstM (pad_cons (ped_name 0) (pad_cons ped_int pad_nil))))
      (pssd_cons (psd_for PassesOwn.never rfl (pid_range1 T.b_range (pad_cons ped_int pad_nil)) (pgd_name (i := 2) sc_law.nd rfl (Or.inl rfl))
      (pssd_cons (psd_set (i := 3) sc_law.nd rfl (Or.inl rfl) (ped_call h__law_sky (hr.mono (by decide)) T.m__law_sky T.F__law_sky.kp T.bi__law_sky (pad_cons (ped_name 1) (pad_cons ped_int pad_nil))))
      (pssd_cons (psd_set (i := 4) sc_law.nd rfl (Or.inl rfl) (ped_call h__law_picture (hr.mono (by decide)) T.m__law_picture T.F__law_picture.kp T.bi__law_picture (pad_cons (ped_name 1) (pad_cons (ped_name 3) (pad_cons (ped_call h__law_pick (hr.mono (by decide)) T.m__law_pick T.F__law_pick.kp T.bi__law_pick (pad_cons (ped_name 1) (pad_cons (ped_meth0 T.cl_Sky T.me_Sky_standings h_Sky_standings (hr.mono (by decide)) T.bi_Sky_standings (ped_name 3)) pad_nil))) pad_nil)))))
      (pssd_cons (psd_asg (ped_call h_voted_reading (hr.mono (by decide)) T.m_voted_reading T.F_voted_reading.kp T.bi_voted_reading (pad_cons (ped_name 3) (pad_cons (ped_name 4) pad_nil))) (pgd_tup rfl (pgsd_cons (pgd_name (i := 5) sc_law.nd rfl (Or.inl rfl)) (pgsd_cons (pgd_name (i := 6) sc_law.nd rfl (Or.inl rfl)) pgsd_nil))))
      (pssd_cons (psd_if (ptd_cmp (od_ne hr.units) (ped_name 5) (ped_call h_plain_reading (hr.mono (by decide)) T.m_plain_reading T.F_plain_reading.kp T.bi_plain_reading (pad_cons (ped_name 3) (pad_cons (ped_name 4) pad_nil))) (nomark _))
      (pssd_one (psd_ret ped_bl))
      pssd_nil)
      (pssd_cons (psd_asg (ped_tup (pad_cons ped_int (pad_cons (ped_fld T.cl_Camera T.na_Camera_error (ped_fld T.cl_Sky T.na_Sky_camera (ped_name 3))) pad_nil))) (pgd_tup rfl (pgsd_cons (pgd_name (i := 7) sc_law.nd rfl (Or.inl rfl)) (pgsd_cons (pgd_name (i := 8) sc_law.nd rfl (Or.inr rfl)) pgsd_nil))))
      (pssd_cons (psd_for PassesOwn.never rfl (pid_seq (ped_meth0 T.cl_Sky T.me_Sky_standings h_Sky_standings (hr.mono (by decide)) T.bi_Sky_standings (ped_name 3))) (pgd_name (i := 9) sc_law.nd rfl (Or.inl rfl))
      (pssd_cons (psd_par (i := 10) (j := 11) rfl sc_law.nd rfl rfl (by decide) rfl rfl (pad_cons (ped_meth T.cl_Sky T.me_Sky_places h_Sky_places (hr.mono (by decide)) T.bi_Sky_places (ped_name 3) (pad_cons (ped_name 9) pad_nil)) (pad_cons ped_int pad_nil)) (by with_unfolding_all rfl))
      (pssd_cons (psd_for PassesOwn.never rfl (pid_seq (ped_name 4)) (pgd_tup rfl (pgsd_cons (pgd_name (i := 12) sc_law.nd rfl (Or.inr rfl)) (pgsd_cons (pgd_name (i := 13) sc_law.nd rfl (Or.inr rfl)) (pgsd_cons (pgd_name (i := 14) sc_law.nd rfl (Or.inr rfl)) pgsd_nil))))
      (pssd_one (psd_aug (i := 11) sc_law.nd rfl (Or.inl rfl) (ped_callTy cd_int T.b_int bt_int (pad_cons (ped_callB (cd_any rfl) T.b_any bt_any (pad_cons (ped_fz (ped_lc (own := [("one", 15), ("other", 16), ("late", 17)]) rfl sc_law.nd (pid_seq (ped_name 10)) (blkOk_by (N := N_law) (sc := defScope s_law) (by decide +kernel)) (fun _ _ _ _ _ => (pgd_tup rfl (pgsd_cons (pgd_name (i := 15) sc_law.nd rfl (Or.inl rfl)) (pgsd_cons (pgd_name (i := 16) sc_law.nd rfl (Or.inl rfl)) (pgsd_cons (pgd_name (i := 17) sc_law.nd rfl (Or.inl rfl)) pgsd_nil))))) (fun _ _ _ _ _ => ptsd_nil) (fun _ _ _ _ _ => (ped_and (ped_cmp (od_le hr.units) (ped_callB cd_abs T.b_abs bt_abs (pad_cons (ped_op od_sub (ped_name 12) (ped_name 15)) pad_nil)) (ped_name 8) (nomark _)) (ped_and (ped_cmp (od_le hr.units) (ped_callB cd_abs T.b_abs bt_abs (pad_cons (ped_op od_sub (ped_name 13) (ped_name 16)) pad_nil)) (ped_name 8) (nomark _)) (ped_one (ped_cmp (od_eq hr.units) (ped_name 14) (ped_name 17) (nomark _)))))))) pad_nil)) pad_nil)) iod_add)))
      (pssd_cons (psd_if (ptd_cmp (od_ne hr.units) (ped_m PySem.F.plainAttrs_dict PySem.F.slot_dict_get PySem.F.type_dict_get (md_get2 hr.units) (ped_call h_votes_for (hr.mono (by decide)) T.m_votes_for T.F_votes_for.kp T.bi_votes_for (pad_cons (ped_name 3) (pad_cons (ped_name 4) (pad_cons (ped_ix (ixd hr.units) (ped_name 9) ped_int) pad_nil)))) (pad_cons (ped_slice sld (ped_name 9) (pod_some ped_int) pod_none) (pad_cons ped_int pad_nil))) (ped_name 11) (nomark _))
      (pssd_one (psd_ret ped_bl))
      pssd_nil)
      (pssd_one (psd_aug (i := 7) sc_law.nd rfl (Or.inl rfl) (ped_callTy cd_int T.b_int bt_int (pad_cons (ped_cmp (od_ge hr.units) (ped_name 11) (ped_op od_sub (ped_callB cd_len T.b_len bt_len (pad_cons (ped_name 4) pad_nil)) (ped_fld T.cl_Camera T.na_Camera_false (ped_fld T.cl_Sky T.na_Sky_camera (ped_name 3)))) (nomark _)) pad_nil)) iod_add))))))
      (pssd_one (psd_if (ptd_cmp (od_gt hr.units) (ped_name 6) (ped_name 7) (nomark _))
      (pssd_one (psd_ret ped_bl))
      pssd_nil)))))))))
      (pssd_one (psd_ret ped_bl))))
theorem ok_law (T : Txt K mg) (h_Sky_places : FnD P w K mg base 3 T.a_Sky_places T.d_Sky_places ["self", "standing"] sp_Sky_places) (h_Sky_standings : FnD P w K mg base 1 T.a_Sky_standings T.d_Sky_standings ["self"] sp_Sky_standings) (h__law_pick : FnD P w K mg base 3 T.a__law_pick T.d__law_pick ["draw", "items"] sp__law_pick) (h__law_picture : FnD P w K mg base 4 T.a__law_picture T.d__law_picture ["draw", "sky", "standing"] sp__law_picture) (h__law_sky : FnD P w K mg base 6 T.a__law_sky T.d__law_sky ["draw", "most"] sp__law_sky) (h_plain_reading : FnD P w K mg base 8 T.a_plain_reading T.d_plain_reading ["sky", "picture"] sp_plain_reading) (h_voted_reading : FnD P w K mg base 9 T.a_voted_reading T.d_voted_reading ["sky", "picture"] sp_voted_reading) (h_votes_for : FnD P w K mg base 3 T.a_votes_for T.d_votes_for ["sky", "picture", "turn"] sp_votes_for) : FnD P w K mg base 10 T.a_law T.d_law ["script"] sp_law :=
  fn_d T.F_law sc_law len_law (pr_law T h_Sky_places h_Sky_standings h__law_pick h__law_picture h__law_sky h_plain_reading h_voted_reading h_votes_for) run_law
end
omit [CA] in
theorem all_mk {l : PySem.W.OpenLaw} {w : World} {K : PySem.W.Frag} {h : Heap} {mg : Str → Option Value} {fa f0 f1 f2 f3 f4 f5 f6 f7 f8 f9 f10 f11 f12 f13 f14 f15 f16 f17 f18 f19 f20 f21 f22 f23 f24 f25 f26 f27 f28 f29 f30 f31 f32 f33 f34 f35 c_Ground c_Camera c_Sky : Addr} (X : K.In h) (G : h.Ns mainGlobals mg) (hfa : mg "law" = some (.ref fa))
    {od0 od1 od2 od3 od4 od5 od6 od7 od8 od9 od10 od11 od12 od13 od14 od15 od16 od17 od18 od19 od20 od21 od22 od23 od24 od25 od26 od27 od28 od29 od30 od31 od32 od33 od34 od35 an0 an1 an2 an3 an4 an5 an6 an7 an8 an9 an10 an11 an12 an13 an14 an15 an16 an17 an18 an19 an20 an21 an22 an23 an24 an25 an26 an27 an28 an29 an30 an31 an32 an33 an34 an35 : Option Addr} {sl0 sl1 sl2 sl3 sl4 sl5 sl6 sl7 sl8 sl9 sl10 sl11 sl12 sl13 sl14 sl15 sl16 sl17 sl18 sl19 sl20 sl21 sl22 sl23 sl24 sl25 sl26 sl27 sl28 sl29 sl30 sl31 sl32 sl33 sl34 sl35 : Array (Option Value)} {oc0 oc1 oc2 oc3 oc4 oc5 oc6 oc7 oc8 oc9 oc10 oc11 oc12 oc13 oc14 oc15 oc16 oc17 oc18 oc19 oc20 oc21 oc22 oc23 oc24 oc25 oc26 oc27 oc28 oc29 oc30 oc31 oc32 oc33 oc34 oc35 kV0 kV1 kV2 kV3 kV4 kV5 kV6 kV7 kV8 kV9 kV10 kV11 kV12 kV13 kV14 kV15 kV16 kV17 kV18 kV19 kV20 kV21 kV22 kV23 kV24 kV25 kV26 kV27 kV28 kV29 kV30 kV31 kV32 kV33 kV34 kV35 dc0 dc1 dc2 dc3 dc4 dc5 dc6 dc7 dc8 dc9 dc10 dc11 dc12 dc13 dc14 dc15 dc16 dc17 dc18 dc19 dc20 dc21 dc22 dc23 dc24 dc25 dc26 dc27 dc28 dc29 dc30 dc31 dc32 dc33 dc34 dc35 pm0 pm1 pm2 pm3 pm4 pm5 pm6 pm7 pm8 pm9 pm10 pm11 pm12 pm13 pm14 pm15 pm16 pm17 pm18 pm19 pm20 pm21 pm22 pm23 pm24 pm25 pm26 pm27 pm28 pm29 pm30 pm31 pm32 pm33 pm34 pm35 cd0 cd1 cd2 cd3 cd4 cd5 cd6 cd7 cd8 cd9 cd10 cd11 cd12 cd13 cd14 cd15 cd16 cd17 cd18 cd19 cd20 cd21 cd22 cd23 cd24 cd25 cd26 cd27 cd28 cd29 cd30 cd31 cd32 cd33 cd34 cd35 ct0 ct1 ct2 ct3 ct4 ct5 ct6 ct7 ct8 ct9 ct10 ct11 ct12 ct13 ct14 ct15 ct16 ct17 ct18 ct19 ct20 ct21 ct22 ct23 ct24 ct25 ct26 ct27 ct28 ct29 ct30 ct31 ct32 ct33 ct34 ct35 : Value}
    (e_Ground : PySem.W.nsIn K mainGlobals "Ground" = some (some (.ref c_Ground)))
    (e_Camera : PySem.W.nsIn K mainGlobals "Camera" = some (some (.ref c_Camera)))
    (e_Sky : PySem.W.nsIn K mainGlobals "Sky" = some (some (.ref c_Sky)))
    (a0 : PySem.W.nsIn K mainGlobals "_law_number" = some (some (.ref f0)))
    (l0 : K.lookup f0 = some ⟨oc0, od0, .func (PySem.W.fnOf "_law_number" "_law_number" (defArgs s__law_number) (defBody s__law_number) (defScope s__law_number) .none kV0 dc0 pm0 an0 cd0 ct0), sl0⟩)
    (c0 : PySem.W.codeIn K cd0 "_law_number" = true)
    (k0 : PySem.W.keepIn K (.ref f0) = true)
    (a1 : PySem.W.nsIn K mainGlobals "_law_take" = some (some (.ref f1)))
    (l1 : K.lookup f1 = some ⟨oc1, od1, .func (PySem.W.fnOf "_law_take" "_law_take" (defArgs s__law_take) (defBody s__law_take) (defScope s__law_take) .none kV1 dc1 pm1 an1 cd1 ct1), sl1⟩)
    (c1 : PySem.W.codeIn K cd1 "_law_take" = true)
    (k1 : PySem.W.keepIn K (.ref f1) = true)
    (a2 : PySem.W.nsIn K mainGlobals "_law_pick" = some (some (.ref f2)))
    (l2 : K.lookup f2 = some ⟨oc2, od2, .func (PySem.W.fnOf "_law_pick" "_law_pick" (defArgs s__law_pick) (defBody s__law_pick) (defScope s__law_pick) .none kV2 dc2 pm2 an2 cd2 ct2), sl2⟩)
    (c2 : PySem.W.codeIn K cd2 "_law_pick" = true)
    (k2 : PySem.W.keepIn K (.ref f2) = true)
    (a3 : PySem.W.nsIn K mainGlobals "is_whole" = some (some (.ref f3)))
    (l3 : K.lookup f3 = some ⟨oc3, od3, .func (PySem.W.fnOf "is_whole" "is_whole" (defArgs s_is_whole) (defBody s_is_whole) (defScope s_is_whole) .none kV3 dc3 pm3 an3 cd3 ct3), sl3⟩)
    (c3 : PySem.W.codeIn K cd3 "is_whole" = true)
    (k3 : PySem.W.keepIn K (.ref f3) = true)
    (a4 : PySem.W.nsIn K mainGlobals "is_point" = some (some (.ref f4)))
    (l4 : K.lookup f4 = some ⟨oc4, od4, .func (PySem.W.fnOf "is_point" "is_point" (defArgs s_is_point) (defBody s_is_point) (defScope s_is_point) .none kV4 dc4 pm4 an4 cd4 ct4), sl4⟩)
    (c4 : PySem.W.codeIn K cd4 "is_point" = true)
    (k4 : PySem.W.keepIn K (.ref f4) = true)
    (a5 : PySem.W.nsIn K mainGlobals "turned" = some (some (.ref f5)))
    (l5 : K.lookup f5 = some ⟨oc5, od5, .func (PySem.W.fnOf "turned" "turned" (defArgs s_turned) (defBody s_turned) (defScope s_turned) .none kV5 dc5 pm5 an5 cd5 ct5), sl5⟩)
    (c5 : PySem.W.codeIn K cd5 "turned" = true)
    (k5 : PySem.W.keepIn K (.ref f5) = true)
    (a6 : PySem.W.findIn K (.ref c_Ground) "__init__" = some (some (.ref f6)))
    (i6 : PySem.W.isFn K (.ref f6) = true)
    (l6 : K.lookup f6 = some ⟨oc6, od6, .func (PySem.W.fnOf "__init__" "Ground.__init__" (defArgs s_Ground___init__) (defBody s_Ground___init__) (defScope s_Ground___init__) .none kV6 dc6 pm6 an6 cd6 ct6), sl6⟩)
    (c6 : PySem.W.codeIn K cd6 "Ground.__init__" = true)
    (k6 : PySem.W.keepIn K (.ref f6) = true)
    (a7 : PySem.W.findIn K (.ref c_Camera) "__init__" = some (some (.ref f7)))
    (i7 : PySem.W.isFn K (.ref f7) = true)
    (l7 : K.lookup f7 = some ⟨oc7, od7, .func (PySem.W.fnOf "__init__" "Camera.__init__" (defArgs s_Camera___init__) (defBody s_Camera___init__) (defScope s_Camera___init__) .none kV7 dc7 pm7 an7 cd7 ct7), sl7⟩)
    (c7 : PySem.W.codeIn K cd7 "Camera.__init__" = true)
    (k7 : PySem.W.keepIn K (.ref f7) = true)
    (a8 : PySem.W.findIn K (.ref c_Sky) "__init__" = some (some (.ref f8)))
    (i8 : PySem.W.isFn K (.ref f8) = true)
    (l8 : K.lookup f8 = some ⟨oc8, od8, .func (PySem.W.fnOf "__init__" "Sky.__init__" (defArgs s_Sky___init__) (defBody s_Sky___init__) (defScope s_Sky___init__) .none kV8 dc8 pm8 an8 cd8 ct8), sl8⟩)
    (c8 : PySem.W.codeIn K cd8 "Sky.__init__" = true)
    (k8 : PySem.W.keepIn K (.ref f8) = true)
    (a9 : PySem.W.findIn K (.ref c_Camera) "is_within" = some (some (.ref f9)))
    (i9 : PySem.W.isFn K (.ref f9) = true)
    (l9 : K.lookup f9 = some ⟨oc9, od9, .func (PySem.W.fnOf "is_within" "Camera.is_within" (defArgs s_Camera_is_within) (defBody s_Camera_is_within) (defScope s_Camera_is_within) .none kV9 dc9 pm9 an9 cd9 ct9), sl9⟩)
    (c9 : PySem.W.codeIn K cd9 "Camera.is_within" = true)
    (k9 : PySem.W.keepIn K (.ref f9) = true)
    (a10 : PySem.W.findIn K (.ref c_Camera) "is_sure" = some (some (.ref f10)))
    (i10 : PySem.W.isFn K (.ref f10) = true)
    (l10 : K.lookup f10 = some ⟨oc10, od10, .func (PySem.W.fnOf "is_sure" "Camera.is_sure" (defArgs s_Camera_is_sure) (defBody s_Camera_is_sure) (defScope s_Camera_is_sure) .none kV10 dc10 pm10 an10 cd10 ct10), sl10⟩)
    (c10 : PySem.W.codeIn K cd10 "Camera.is_sure" = true)
    (k10 : PySem.W.keepIn K (.ref f10) = true)
    (a11 : PySem.W.findIn K (.ref c_Camera) "check_picture" = some (some (.ref f11)))
    (i11 : PySem.W.isFn K (.ref f11) = true)
    (l11 : K.lookup f11 = some ⟨oc11, od11, .func (PySem.W.fnOf "check_picture" "Camera.check_picture" (defArgs s_Camera_check_picture) (defBody s_Camera_check_picture) (defScope s_Camera_check_picture) .none kV11 dc11 pm11 an11 cd11 ct11), sl11⟩)
    (c11 : PySem.W.codeIn K cd11 "Camera.check_picture" = true)
    (k11 : PySem.W.keepIn K (.ref f11) = true)
    (a12 : PySem.W.findIn K (.ref c_Sky) "standings" = some (some (.ref f12)))
    (i12 : PySem.W.isFn K (.ref f12) = true)
    (l12 : K.lookup f12 = some ⟨oc12, od12, .func (PySem.W.fnOf "standings" "Sky.standings" (defArgs s_Sky_standings) (defBody s_Sky_standings) (defScope s_Sky_standings) .none kV12 dc12 pm12 an12 cd12 ct12), sl12⟩)
    (c12 : PySem.W.codeIn K cd12 "Sky.standings" = true)
    (k12 : PySem.W.keepIn K (.ref f12) = true)
    (a13 : PySem.W.findIn K (.ref c_Sky) "place" = some (some (.ref f13)))
    (i13 : PySem.W.isFn K (.ref f13) = true)
    (l13 : K.lookup f13 = some ⟨oc13, od13, .func (PySem.W.fnOf "place" "Sky.place" (defArgs s_Sky_place) (defBody s_Sky_place) (defScope s_Sky_place) .none kV13 dc13 pm13 an13 cd13 ct13), sl13⟩)
    (c13 : PySem.W.codeIn K cd13 "Sky.place" = true)
    (k13 : PySem.W.keepIn K (.ref f13) = true)
    (a14 : PySem.W.findIn K (.ref c_Sky) "places" = some (some (.ref f14)))
    (i14 : PySem.W.isFn K (.ref f14) = true)
    (l14 : K.lookup f14 = some ⟨oc14, od14, .func (PySem.W.fnOf "places" "Sky.places" (defArgs s_Sky_places) (defBody s_Sky_places) (defScope s_Sky_places) .none kV14 dc14 pm14 an14 cd14 ct14), sl14⟩)
    (c14 : PySem.W.codeIn K cd14 "Sky.places" = true)
    (k14 : PySem.W.keepIn K (.ref f14) = true)
    (a15 : PySem.W.findIn K (.ref c_Sky) "sure_craters" = some (some (.ref f15)))
    (i15 : PySem.W.isFn K (.ref f15) = true)
    (l15 : K.lookup f15 = some ⟨oc15, od15, .func (PySem.W.fnOf "sure_craters" "Sky.sure_craters" (defArgs s_Sky_sure_craters) (defBody s_Sky_sure_craters) (defScope s_Sky_sure_craters) .none kV15 dc15 pm15 an15 cd15 ct15), sl15⟩)
    (c15 : PySem.W.codeIn K cd15 "Sky.sure_craters" = true)
    (k15 : PySem.W.keepIn K (.ref f15) = true)
    (a16 : PySem.W.nsIn K mainGlobals "along" = some (some (.ref f16)))
    (l16 : K.lookup f16 = some ⟨oc16, od16, .func (PySem.W.fnOf "along" "along" (defArgs s_along) (defBody s_along) (defScope s_along) .none kV16 dc16 pm16 an16 cd16 ct16), sl16⟩)
    (c16 : PySem.W.codeIn K cd16 "along" = true)
    (k16 : PySem.W.keepIn K (.ref f16) = true)
    (a17 : PySem.W.nsIn K mainGlobals "augmented" = some (some (.ref f17)))
    (l17 : K.lookup f17 = some ⟨oc17, od17, .func (PySem.W.fnOf "augmented" "augmented" (defArgs s_augmented) (defBody s_augmented) (defScope s_augmented) .none kV17 dc17 pm17 an17 cd17 ct17), sl17⟩)
    (c17 : PySem.W.codeIn K cd17 "augmented" = true)
    (k17 : PySem.W.keepIn K (.ref f17) = true)
    (a18 : PySem.W.nsIn K mainGlobals "greatest" = some (some (.ref f18)))
    (l18 : K.lookup f18 = some ⟨oc18, od18, .func (PySem.W.fnOf "greatest" "greatest" (defArgs s_greatest) (defBody s_greatest) (defScope s_greatest) .none kV18 dc18 pm18 an18 cd18 ct18), sl18⟩)
    (c18 : PySem.W.codeIn K cd18 "greatest" = true)
    (k18 : PySem.W.keepIn K (.ref f18) = true)
    (a19 : PySem.W.nsIn K mainGlobals "short_lot" = some (some (.ref f19)))
    (l19 : K.lookup f19 = some ⟨oc19, od19, .func (PySem.W.fnOf "short_lot" "short_lot" (defArgs s_short_lot) (defBody s_short_lot) (defScope s_short_lot) .none kV19 dc19 pm19 an19 cd19 ct19), sl19⟩)
    (c19 : PySem.W.codeIn K cd19 "short_lot" = true)
    (k19 : PySem.W.keepIn K (.ref f19) = true)
    (a20 : PySem.W.nsIn K mainGlobals "turned_round" = some (some (.ref f20)))
    (l20 : K.lookup f20 = some ⟨oc20, od20, .func (PySem.W.fnOf "turned_round" "turned_round" (defArgs s_turned_round) (defBody s_turned_round) (defScope s_turned_round) .none kV20 dc20 pm20 an20 cd20 ct20), sl20⟩)
    (c20 : PySem.W.codeIn K cd20 "turned_round" = true)
    (k20 : PySem.W.keepIn K (.ref f20) = true)
    (a21 : PySem.W.nsIn K mainGlobals "are_near" = some (some (.ref f21)))
    (l21 : K.lookup f21 = some ⟨oc21, od21, .func (PySem.W.fnOf "are_near" "are_near" (defArgs s_are_near) (defBody s_are_near) (defScope s_are_near) .none kV21 dc21 pm21 an21 cd21 ct21), sl21⟩)
    (c21 : PySem.W.codeIn K cd21 "are_near" = true)
    (k21 : PySem.W.keepIn K (.ref f21) = true)
    (a22 : PySem.W.nsIn K mainGlobals "nexts_of" = some (some (.ref f22)))
    (l22 : K.lookup f22 = some ⟨oc22, od22, .func (PySem.W.fnOf "nexts_of" "nexts_of" (defArgs s_nexts_of) (defBody s_nexts_of) (defScope s_nexts_of) .none kV22 dc22 pm22 an22 cd22 ct22), sl22⟩)
    (c22 : PySem.W.codeIn K cd22 "nexts_of" = true)
    (k22 : PySem.W.keepIn K (.ref f22) = true)
    (a23 : PySem.W.nsIn K mainGlobals "sure_nexts" = some (some (.ref f23)))
    (l23 : K.lookup f23 = some ⟨oc23, od23, .func (PySem.W.fnOf "sure_nexts" "sure_nexts" (defArgs s_sure_nexts) (defBody s_sure_nexts) (defScope s_sure_nexts) .none kV23 dc23 pm23 an23 cd23 ct23), sl23⟩)
    (c23 : PySem.W.codeIn K cd23 "sure_nexts" = true)
    (k23 : PySem.W.keepIn K (.ref f23) = true)
    (a24 : PySem.W.nsIn K mainGlobals "against" = some (some (.ref f24)))
    (l24 : K.lookup f24 = some ⟨oc24, od24, .func (PySem.W.fnOf "against" "against" (defArgs s_against) (defBody s_against) (defScope s_against) .none kV24 dc24 pm24 an24 cd24 ct24), sl24⟩)
    (c24 : PySem.W.codeIn K cd24 "against" = true)
    (k24 : PySem.W.keepIn K (.ref f24) = true)
    (a25 : PySem.W.nsIn K mainGlobals "fits" = some (some (.ref f25)))
    (l25 : K.lookup f25 = some ⟨oc25, od25, .func (PySem.W.fnOf "fits" "fits" (defArgs s_fits) (defBody s_fits) (defScope s_fits) .none kV25 dc25 pm25 an25 cd25 ct25), sl25⟩)
    (c25 : PySem.W.codeIn K cd25 "fits" = true)
    (k25 : PySem.W.keepIn K (.ref f25) = true)
    (a26 : PySem.W.nsIn K mainGlobals "plain_reading" = some (some (.ref f26)))
    (l26 : K.lookup f26 = some ⟨oc26, od26, .func (PySem.W.fnOf "plain_reading" "plain_reading" (defArgs s_plain_reading) (defBody s_plain_reading) (defScope s_plain_reading) .none kV26 dc26 pm26 an26 cd26 ct26), sl26⟩)
    (c26 : PySem.W.codeIn K cd26 "plain_reading" = true)
    (k26 : PySem.W.keepIn K (.ref f26) = true)
    (a27 : PySem.W.nsIn K mainGlobals "shifts_of" = some (some (.ref f27)))
    (l27 : K.lookup f27 = some ⟨oc27, od27, .func (PySem.W.fnOf "shifts_of" "shifts_of" (defArgs s_shifts_of) (defBody s_shifts_of) (defScope s_shifts_of) .none kV27 dc27 pm27 an27 cd27 ct27), sl27⟩)
    (c27 : PySem.W.codeIn K cd27 "shifts_of" = true)
    (k27 : PySem.W.keepIn K (.ref f27) = true)
    (a28 : PySem.W.nsIn K mainGlobals "votes_for" = some (some (.ref f28)))
    (l28 : K.lookup f28 = some ⟨oc28, od28, .func (PySem.W.fnOf "votes_for" "votes_for" (defArgs s_votes_for) (defBody s_votes_for) (defScope s_votes_for) .none kV28 dc28 pm28 an28 cd28 ct28), sl28⟩)
    (c28 : PySem.W.codeIn K cd28 "votes_for" = true)
    (k28 : PySem.W.keepIn K (.ref f28) = true)
    (a29 : PySem.W.nsIn K mainGlobals "voted_reading" = some (some (.ref f29)))
    (l29 : K.lookup f29 = some ⟨oc29, od29, .func (PySem.W.fnOf "voted_reading" "voted_reading" (defArgs s_voted_reading) (defBody s_voted_reading) (defScope s_voted_reading) .none kV29 dc29 pm29 an29 cd29 ct29), sl29⟩)
    (c29 : PySem.W.codeIn K cd29 "voted_reading" = true)
    (k29 : PySem.W.keepIn K (.ref f29) = true)
    (a30 : PySem.W.nsIn K mainGlobals "_law_ground" = some (some (.ref f30)))
    (l30 : K.lookup f30 = some ⟨oc30, od30, .func (PySem.W.fnOf "_law_ground" "_law_ground" (defArgs s__law_ground) (defBody s__law_ground) (defScope s__law_ground) .none kV30 dc30 pm30 an30 cd30 ct30), sl30⟩)
    (c30 : PySem.W.codeIn K cd30 "_law_ground" = true)
    (k30 : PySem.W.keepIn K (.ref f30) = true)
    (a31 : PySem.W.nsIn K mainGlobals "_law_camera" = some (some (.ref f31)))
    (l31 : K.lookup f31 = some ⟨oc31, od31, .func (PySem.W.fnOf "_law_camera" "_law_camera" (defArgs s__law_camera) (defBody s__law_camera) (defScope s__law_camera) .none kV31 dc31 pm31 an31 cd31 ct31), sl31⟩)
    (c31 : PySem.W.codeIn K cd31 "_law_camera" = true)
    (k31 : PySem.W.keepIn K (.ref f31) = true)
    (a32 : PySem.W.nsIn K mainGlobals "_law_sky" = some (some (.ref f32)))
    (l32 : K.lookup f32 = some ⟨oc32, od32, .func (PySem.W.fnOf "_law_sky" "_law_sky" (defArgs s__law_sky) (defBody s__law_sky) (defScope s__law_sky) .none kV32 dc32 pm32 an32 cd32 ct32), sl32⟩)
    (c32 : PySem.W.codeIn K cd32 "_law_sky" = true)
    (k32 : PySem.W.keepIn K (.ref f32) = true)
    (a33 : PySem.W.nsIn K mainGlobals "_law_spots" = some (some (.ref f33)))
    (l33 : K.lookup f33 = some ⟨oc33, od33, .func (PySem.W.fnOf "_law_spots" "_law_spots" (defArgs s__law_spots) (defBody s__law_spots) (defScope s__law_spots) .none kV33 dc33 pm33 an33 cd33 ct33), sl33⟩)
    (c33 : PySem.W.codeIn K cd33 "_law_spots" = true)
    (k33 : PySem.W.keepIn K (.ref f33) = true)
    (a34 : PySem.W.nsIn K mainGlobals "_law_picture" = some (some (.ref f34)))
    (l34 : K.lookup f34 = some ⟨oc34, od34, .func (PySem.W.fnOf "_law_picture" "_law_picture" (defArgs s__law_picture) (defBody s__law_picture) (defScope s__law_picture) .none kV34 dc34 pm34 an34 cd34 ct34), sl34⟩)
    (c34 : PySem.W.codeIn K cd34 "_law_picture" = true)
    (k34 : PySem.W.keepIn K (.ref f34) = true)
    (a35 : PySem.W.nsIn K mainGlobals "law" = some (some (.ref f35)))
    (l35 : K.lookup f35 = some ⟨oc35, od35, .func (PySem.W.fnOf "law" "law" (defArgs s_law) (defBody s_law) (defScope s_law) .none kV35 dc35 pm35 an35 cd35 ct35), sl35⟩)
    (c35 : PySem.W.codeIn K cd35 "law" = true)
    (k35 : PySem.W.keepIn K (.ref f35) = true)
    (pg_Ground : PySem.W.plainGet K c_Ground Str.empty = true)
    (hd_Ground : PySem.W.hasDictIn K c_Ground = true)
    (po_Ground : PySem.W.plainOver K c_Ground = true)
    (sa_Ground : PySem.W.findIn K (.ref c_Ground) "__setattr__" = some (some (.builtin "object.__setattr__")))
    (mks_Ground : PySem.W.makesIn K c_Ground = true)
    (kp_Ground : PySem.W.keepIn K (.ref c_Ground) = true)
    (pg_Camera : PySem.W.plainGet K c_Camera Str.empty = true)
    (hd_Camera : PySem.W.hasDictIn K c_Camera = true)
    (po_Camera : PySem.W.plainOver K c_Camera = true)
    (sa_Camera : PySem.W.findIn K (.ref c_Camera) "__setattr__" = some (some (.builtin "object.__setattr__")))
    (mks_Camera : PySem.W.makesIn K c_Camera = true)
    (kp_Camera : PySem.W.keepIn K (.ref c_Camera) = true)
    (pg_Sky : PySem.W.plainGet K c_Sky Str.empty = true)
    (hd_Sky : PySem.W.hasDictIn K c_Sky = true)
    (po_Sky : PySem.W.plainOver K c_Sky = true)
    (sa_Sky : PySem.W.findIn K (.ref c_Sky) "__setattr__" = some (some (.builtin "object.__setattr__")))
    (mks_Sky : PySem.W.makesIn K c_Sky = true)
    (kp_Sky : PySem.W.keepIn K (.ref c_Sky) = true)
    (n_Ground_craters : PySem.W.findIn K (.ref c_Ground) "craters" = some none)
    (n_Camera_width : PySem.W.findIn K (.ref c_Camera) "width" = some none)
    (n_Camera_height : PySem.W.findIn K (.ref c_Camera) "height" = some none)
    (n_Camera_error : PySem.W.findIn K (.ref c_Camera) "error" = some none)
    (n_Camera_false : PySem.W.findIn K (.ref c_Camera) "false" = some none)
    (n_Camera_lost : PySem.W.findIn K (.ref c_Camera) "lost" = some none)
    (n_Sky_ground : PySem.W.findIn K (.ref c_Sky) "ground" = some none)
    (n_Sky_camera : PySem.W.findIn K (.ref c_Sky) "camera" = some none)
    (n_Sky_turns : PySem.W.findIn K (.ref c_Sky) "turns" = some none)
    (n_Sky_area : PySem.W.findIn K (.ref c_Sky) "area" = some none)
    (z_len : PySem.W.nsIn K mainGlobals "len" = some none)
    (z_int : PySem.W.nsIn K mainGlobals "int" = some none)
    (z_range : PySem.W.nsIn K mainGlobals "range" = some none)
    (z_bool : PySem.W.nsIn K mainGlobals "bool" = some none)
    (z_isinstance : PySem.W.nsIn K mainGlobals "isinstance" = some none)
    (z_tuple : PySem.W.nsIn K mainGlobals "tuple" = some none)
    (z_enumerate : PySem.W.nsIn K mainGlobals "enumerate" = some none)
    (z_sorted : PySem.W.nsIn K mainGlobals "sorted" = some none)
    (z_all : PySem.W.nsIn K mainGlobals "all" = some none)
    (z_zip : PySem.W.nsIn K mainGlobals "zip" = some none)
    (z_dict : PySem.W.nsIn K mainGlobals "dict" = some none)
    (z_list : PySem.W.nsIn K mainGlobals "list" = some none)
    (z_abs : PySem.W.nsIn K mainGlobals "abs" = some none)
    (z_max : PySem.W.nsIn K mainGlobals "max" = some none)
    (z_min : PySem.W.nsIn K mainGlobals "min" = some none)
    (z_any : PySem.W.nsIn K mainGlobals "any" = some none)
    (q_MOST_SIZE : ∃ t, PySem.W.nsIn K mainGlobals "MOST_SIZE" = some (some (.int 99 t)))
    (q_MOST_PLACE : ∃ t, PySem.W.nsIn K mainGlobals "MOST_PLACE" = some (some (.int 1000000 t)))
    (q_MOST_COUNT : ∃ t, PySem.W.nsIn K mainGlobals "MOST_COUNT" = some (some (.int 100 t)))
    (q_MOST_SIDE : ∃ t, PySem.W.nsIn K mainGlobals "MOST_SIDE" = some (some (.int 1000 t)))
    (q_MOST_STANDINGS : ∃ t, PySem.W.nsIn K mainGlobals "MOST_STANDINGS" = some (some (.int 40000 t)))
    : ∃ fd : FuncData, (∀ (s : Shared) (v : Value), BindsTo s fd ⟨[v], []⟩ [("script", v)]) ∧ ∀ base : Heap, K.In base → base.Ns mainGlobals mg → FnD l.prog w K mg base 10 fa fd ["script"] DL.spLaw := by
  have e := hfa.symm.trans (PySem.W.mg_of X G a35)
  cases e
  letI : CA := ⟨c_Ground, c_Camera, c_Sky⟩
  have F0 := fun_mk (st := s__law_number) l0 c0 k0
  have F1 := fun_mk (st := s__law_take) l1 c1 k1
  have F2 := fun_mk (st := s__law_pick) l2 c2 k2
  have F3 := fun_mk (st := s_is_whole) l3 c3 k3
  have F4 := fun_mk (st := s_is_point) l4 c4 k4
  have F5 := fun_mk (st := s_turned) l5 c5 k5
  have F6 := fun_mk (st := s_Ground___init__) l6 c6 k6
  have F7 := fun_mk (st := s_Camera___init__) l7 c7 k7
  have F8 := fun_mk (st := s_Sky___init__) l8 c8 k8
  have F9 := fun_mk (st := s_Camera_is_within) l9 c9 k9
  have F10 := fun_mk (st := s_Camera_is_sure) l10 c10 k10
  have F11 := fun_mk (st := s_Camera_check_picture) l11 c11 k11
  have F12 := fun_mk (st := s_Sky_standings) l12 c12 k12
  have F13 := fun_mk (st := s_Sky_place) l13 c13 k13
  have F14 := fun_mk (st := s_Sky_places) l14 c14 k14
  have F15 := fun_mk (st := s_Sky_sure_craters) l15 c15 k15
  have F16 := fun_mk (st := s_along) l16 c16 k16
  have F17 := fun_mk (st := s_augmented) l17 c17 k17
  have F18 := fun_mk (st := s_greatest) l18 c18 k18
  have F19 := fun_mk (st := s_short_lot) l19 c19 k19
  have F20 := fun_mk (st := s_turned_round) l20 c20 k20
  have F21 := fun_mk (st := s_are_near) l21 c21 k21
  have F22 := fun_mk (st := s_nexts_of) l22 c22 k22
  have F23 := fun_mk (st := s_sure_nexts) l23 c23 k23
  have F24 := fun_mk (st := s_against) l24 c24 k24
  have F25 := fun_mk (st := s_fits) l25 c25 k25
  have F26 := fun_mk (st := s_plain_reading) l26 c26 k26
  have F27 := fun_mk (st := s_shifts_of) l27 c27 k27
  have F28 := fun_mk (st := s_votes_for) l28 c28 k28
  have F29 := fun_mk (st := s_voted_reading) l29 c29 k29
  have F30 := fun_mk (st := s__law_ground) l30 c30 k30
  have F31 := fun_mk (st := s__law_camera) l31 c31 k31
  have F32 := fun_mk (st := s__law_sky) l32 c32 k32
  have F33 := fun_mk (st := s__law_spots) l33 c33 k33
  have F34 := fun_mk (st := s__law_picture) l34 c34 k34
  have F35 := fun_mk (st := s_law) l35 c35 k35
  have B0 := F0.binds (ps := ["script", "index"]) fun _ _ _ _ _ _ us hl => match us, hl with | [_, _], _ => rfl
  have B1 := F1.binds (ps := ["draw", "many"]) fun _ _ _ _ _ _ us hl => match us, hl with | [_, _], _ => rfl
  have B2 := F2.binds (ps := ["draw", "items"]) fun _ _ _ _ _ _ us hl => match us, hl with | [_, _], _ => rfl
  have B3 := F3.binds (ps := ["thing", "low", "high"]) fun _ _ _ _ _ _ us hl => match us, hl with | [_, _, _], _ => rfl
  have B4 := F4.binds (ps := ["thing", "low", "high"]) fun _ _ _ _ _ _ us hl => match us, hl with | [_, _, _], _ => rfl
  have B5 := F5.binds (ps := ["x", "y", "turn"]) fun _ _ _ _ _ _ us hl => match us, hl with | [_, _, _], _ => rfl
  have B6 := F6.binds (ps := ["self", "craters"]) fun _ _ _ _ _ _ us hl => match us, hl with | [_, _], _ => rfl
  have B7 := F7.binds (ps := ["self", "width", "height", "error", "false", "lost"]) fun _ _ _ _ _ _ us hl => match us, hl with | [_, _, _, _, _, _], _ => rfl
  have B8 := F8.binds (ps := ["self", "ground", "camera", "turns", "area"]) fun _ _ _ _ _ _ us hl => match us, hl with | [_, _, _, _, _], _ => rfl
  have B9 := F9.binds (ps := ["self", "x", "y", "more"]) fun _ _ _ _ _ _ us hl => match us, hl with | [_, _, _, _], _ => rfl
  have B10 := F10.binds (ps := ["self", "x", "y"]) fun _ _ _ _ _ _ us hl => match us, hl with | [_, _, _], _ => rfl
  have B11 := F11.binds (ps := ["self", "picture"]) fun _ _ _ _ _ _ us hl => match us, hl with | [_, _], _ => rfl
  have B12 := F12.binds (ps := ["self"]) fun _ _ _ _ _ _ us hl => match us, hl with | [_], _ => rfl
  have B13 := F13.binds (ps := ["self", "crater", "standing"]) fun _ _ _ _ _ _ us hl => match us, hl with | [_, _, _], _ => rfl
  have B14 := F14.binds (ps := ["self", "standing"]) fun _ _ _ _ _ _ us hl => match us, hl with | [_, _], _ => rfl
  have B15 := F15.binds (ps := ["self", "standing"]) fun _ _ _ _ _ _ us hl => match us, hl with | [_, _], _ => rfl
  have B16 := F16.binds (ps := ["comers", "last", "pairs"]) fun _ _ _ _ _ _ us hl => match us, hl with | [_, _, _], _ => rfl
  have B17 := F17.binds (ps := ["nexts", "one", "pairs"]) fun _ _ _ _ _ _ us hl => match us, hl with | [_, _, _], _ => rfl
  have B18 := F18.binds (ps := ["nexts"]) fun _ _ _ _ _ _ us hl => match us, hl with | [_], _ => rfl
  have B19 := F19.binds (ps := ["nexts", "matching"]) fun _ _ _ _ _ _ us hl => match us, hl with | [_, _], _ => rfl
  have B20 := F20.binds (ps := ["nexts", "many"]) fun _ _ _ _ _ _ us hl => match us, hl with | [_, _], _ => rfl
  have B21 := F21.binds (ps := ["point", "place", "error"]) fun _ _ _ _ _ _ us hl => match us, hl with | [_, _, _], _ => rfl
  have B22 := F22.binds (ps := ["sky", "picture", "standing"]) fun _ _ _ _ _ _ us hl => match us, hl with | [_, _, _], _ => rfl
  have B23 := F23.binds (ps := ["sky", "picture", "standing"]) fun _ _ _ _ _ _ us hl => match us, hl with | [_, _, _], _ => rfl
  have B24 := F24.binds (ps := ["sky", "picture", "standing"]) fun _ _ _ _ _ _ us hl => match us, hl with | [_, _, _], _ => rfl
  have B25 := F25.binds (ps := ["sky", "picture", "standing"]) fun _ _ _ _ _ _ us hl => match us, hl with | [_, _, _], _ => rfl
  have B26 := F26.binds (ps := ["sky", "picture"]) fun _ _ _ _ _ _ us hl => match us, hl with | [_, _], _ => rfl
  have B27 := F27.binds (ps := ["sky", "point", "turn"]) fun _ _ _ _ _ _ us hl => match us, hl with | [_, _, _], _ => rfl
  have B28 := F28.binds (ps := ["sky", "picture", "turn"]) fun _ _ _ _ _ _ us hl => match us, hl with | [_, _, _], _ => rfl
  have B29 := F29.binds (ps := ["sky", "picture"]) fun _ _ _ _ _ _ us hl => match us, hl with | [_, _], _ => rfl
  have B30 := F30.binds (ps := ["draw", "most", "side"]) fun _ _ _ _ _ _ us hl => match us, hl with | [_, _, _], _ => rfl
  have B31 := F31.binds (ps := ["draw"]) fun _ _ _ _ _ _ us hl => match us, hl with | [_], _ => rfl
  have B32 := F32.binds (ps := ["draw", "most"]) fun _ _ _ _ _ _ us hl => match us, hl with | [_, _], _ => rfl
  have B33 := F33.binds (ps := ["camera"]) fun _ _ _ _ _ _ us hl => match us, hl with | [_], _ => rfl
  have B34 := F34.binds (ps := ["draw", "sky", "standing"]) fun _ _ _ _ _ _ us hl => match us, hl with | [_, _, _], _ => rfl
  have B35 := F35.binds (ps := ["script"]) fun _ _ _ _ _ _ us hl => match us, hl with | [_], _ => rfl
  let T : Txt K mg := ⟨_, _, F0, PySem.W.mg_of X G a0, B0,
    _, _, F1, PySem.W.mg_of X G a1, B1,
    _, _, F2, PySem.W.mg_of X G a2, B2,
    _, _, F3, PySem.W.mg_of X G a3, B3,
    _, _, F4, PySem.W.mg_of X G a4, B4,
    _, _, F5, PySem.W.mg_of X G a5, B5,
    _, _, F6, B6,
    _, _, F7, B7,
    _, _, F8, B8,
    _, _, F9, B9,
    _, _, F10, B10,
    _, _, F11, B11,
    _, _, F12, B12,
    _, _, F13, B13,
    _, _, F14, B14,
    _, _, F15, B15,
    _, _, F16, PySem.W.mg_of X G a16, B16,
    _, _, F17, PySem.W.mg_of X G a17, B17,
    _, _, F18, PySem.W.mg_of X G a18, B18,
    _, _, F19, PySem.W.mg_of X G a19, B19,
    _, _, F20, PySem.W.mg_of X G a20, B20,
    _, _, F21, PySem.W.mg_of X G a21, B21,
    _, _, F22, PySem.W.mg_of X G a22, B22,
    _, _, F23, PySem.W.mg_of X G a23, B23,
    _, _, F24, PySem.W.mg_of X G a24, B24,
    _, _, F25, PySem.W.mg_of X G a25, B25,
    _, _, F26, PySem.W.mg_of X G a26, B26,
    _, _, F27, PySem.W.mg_of X G a27, B27,
    _, _, F28, PySem.W.mg_of X G a28, B28,
    _, _, F29, PySem.W.mg_of X G a29, B29,
    _, _, F30, PySem.W.mg_of X G a30, B30,
    _, _, F31, PySem.W.mg_of X G a31, B31,
    _, _, F32, PySem.W.mg_of X G a32, B32,
    _, _, F33, PySem.W.mg_of X G a33, B33,
    _, _, F34, PySem.W.mg_of X G a34, B34,
    _, _, F35, PySem.W.mg_of X G a35, B35,
    PySem.W.mg_none_of X G z_len,
    PySem.W.mg_none_of X G z_int,
    PySem.W.mg_none_of X G z_range,
    PySem.W.mg_none_of X G z_bool,
    PySem.W.mg_none_of X G z_isinstance,
    PySem.W.mg_none_of X G z_tuple,
    PySem.W.mg_none_of X G z_enumerate,
    PySem.W.mg_none_of X G z_sorted,
    PySem.W.mg_none_of X G z_all,
    PySem.W.mg_none_of X G z_zip,
    PySem.W.mg_none_of X G z_dict,
    PySem.W.mg_none_of X G z_list,
    PySem.W.mg_none_of X G z_abs,
    PySem.W.mg_none_of X G z_max,
    PySem.W.mg_none_of X G z_min,
    PySem.W.mg_none_of X G z_any,
    DL.isTab_ok (by intro C hC; cases hC),
    (let ⟨t, e⟩ := q_MOST_SIZE; ⟨t, PySem.W.mg_of X G e⟩),
    (let ⟨t, e⟩ := q_MOST_PLACE; ⟨t, PySem.W.mg_of X G e⟩),
    (let ⟨t, e⟩ := q_MOST_COUNT; ⟨t, PySem.W.mg_of X G e⟩),
    n_Ground_craters,
    ⟨pg_Ground, hd_Ground, po_Ground, sa_Ground⟩,
    (let ⟨t, e⟩ := q_MOST_SIDE; ⟨t, PySem.W.mg_of X G e⟩),
    n_Camera_width,
    ⟨pg_Camera, hd_Camera, po_Camera, sa_Camera⟩,
    n_Camera_height,
    n_Camera_error,
    n_Camera_false,
    n_Camera_lost,
    (let ⟨t, e⟩ := q_MOST_STANDINGS; ⟨t, PySem.W.mg_of X G e⟩),
    n_Sky_ground,
    ⟨pg_Sky, hd_Sky, po_Sky, sa_Sky⟩,
    n_Sky_camera,
    n_Sky_turns,
    n_Sky_area,
    ⟨a9, i9, k9⟩,
    ⟨a13, i13, k13⟩,
    ⟨a14, i14, k14⟩,
    ⟨a10, i10, k10⟩,
    ⟨a15, i15, k15⟩,
    ⟨a11, i11, k11⟩,
    ⟨a12, i12, k12⟩,
    PySem.W.mg_of X G e_Ground,
    ⟨mks_Ground, a6, i6, kp_Ground⟩,
    PySem.W.mg_of X G e_Camera,
    ⟨mks_Camera, a7, i7, kp_Camera⟩,
    PySem.W.mg_of X G e_Sky,
    ⟨mks_Sky, a8, i8, kp_Sky⟩⟩
  refine ⟨PySem.W.fnOf "law" "law" (defArgs s_law) (defBody s_law) (defScope s_law) .none kV35 dc35 pm35 an35 cd35 ct35, fun s v => .of_eq rfl, fun base _ _ => ?_⟩
  have h__law_number : FnD l.prog w K mg base 1 T.a__law_number T.d__law_number ["script", "index"] sp__law_number := ok__law_number T
  have h__law_take : FnD l.prog w K mg base 2 T.a__law_take T.d__law_take ["draw", "many"] sp__law_take := ok__law_take T h__law_number
  have h__law_pick : FnD l.prog w K mg base 3 T.a__law_pick T.d__law_pick ["draw", "items"] sp__law_pick := ok__law_pick T h__law_take
  have h_is_whole : FnD l.prog w K mg base 1 T.a_is_whole T.d_is_whole ["thing", "low", "high"] sp_is_whole := ok_is_whole T
  have h_is_point : FnD l.prog w K mg base 2 T.a_is_point T.d_is_point ["thing", "low", "high"] sp_is_point := ok_is_point T h_is_whole
  have h_turned : FnD l.prog w K mg base 1 T.a_turned T.d_turned ["x", "y", "turn"] sp_turned := ok_turned T
  have h_Ground___init__ : FnD l.prog w K mg base 3 T.a_Ground___init__ T.d_Ground___init__ ["self", "craters"] sp_Ground___init__ := ok_Ground___init__ T h_is_point
  have h_Camera___init__ : FnD l.prog w K mg base 2 T.a_Camera___init__ T.d_Camera___init__ ["self", "width", "height", "error", "false", "lost"] sp_Camera___init__ := ok_Camera___init__ T h_is_whole
  have h_Sky___init__ : FnD l.prog w K mg base 2 T.a_Sky___init__ T.d_Sky___init__ ["self", "ground", "camera", "turns", "area"] sp_Sky___init__ := ok_Sky___init__ T h_is_whole
  have h_Camera_is_within : FnD l.prog w K mg base 1 T.a_Camera_is_within T.d_Camera_is_within ["self", "x", "y", "more"] sp_Camera_is_within := ok_Camera_is_within T
  have h_Camera_is_sure : FnD l.prog w K mg base 2 T.a_Camera_is_sure T.d_Camera_is_sure ["self", "x", "y"] sp_Camera_is_sure := ok_Camera_is_sure T h_Camera_is_within
  have h_Camera_check_picture : FnD l.prog w K mg base 3 T.a_Camera_check_picture T.d_Camera_check_picture ["self", "picture"] sp_Camera_check_picture := ok_Camera_check_picture T h_Camera_is_within h_is_point
  have h_Sky_standings : FnD l.prog w K mg base 1 T.a_Sky_standings T.d_Sky_standings ["self"] sp_Sky_standings := ok_Sky_standings T
  have h_Sky_place : FnD l.prog w K mg base 2 T.a_Sky_place T.d_Sky_place ["self", "crater", "standing"] sp_Sky_place := ok_Sky_place T h_turned
  have h_Sky_places : FnD l.prog w K mg base 3 T.a_Sky_places T.d_Sky_places ["self", "standing"] sp_Sky_places := ok_Sky_places T h_Sky_place
  have h_Sky_sure_craters : FnD l.prog w K mg base 4 T.a_Sky_sure_craters T.d_Sky_sure_craters ["self", "standing"] sp_Sky_sure_craters := ok_Sky_sure_craters T h_Camera_is_sure h_Sky_places
  have h_along : FnD l.prog w K mg base 1 T.a_along T.d_along ["comers", "last", "pairs"] sp_along := ok_along T
  have h_augmented : FnD l.prog w K mg base 2 T.a_augmented T.d_augmented ["nexts", "one", "pairs"] sp_augmented := ok_augmented T h_along
  have h_greatest : FnD l.prog w K mg base 3 T.a_greatest T.d_greatest ["nexts"] sp_greatest := ok_greatest T h_augmented
  have h_short_lot : FnD l.prog w K mg base 1 T.a_short_lot T.d_short_lot ["nexts", "matching"] sp_short_lot := ok_short_lot T
  have h_turned_round : FnD l.prog w K mg base 1 T.a_turned_round T.d_turned_round ["nexts", "many"] sp_turned_round := ok_turned_round T
  have h_are_near : FnD l.prog w K mg base 1 T.a_are_near T.d_are_near ["point", "place", "error"] sp_are_near := ok_are_near T
  have h_nexts_of : FnD l.prog w K mg base 4 T.a_nexts_of T.d_nexts_of ["sky", "picture", "standing"] sp_nexts_of := ok_nexts_of T h_Sky_places h_are_near
  have h_sure_nexts : FnD l.prog w K mg base 5 T.a_sure_nexts T.d_sure_nexts ["sky", "picture", "standing"] sp_sure_nexts := ok_sure_nexts T h_Sky_sure_craters h_nexts_of h_turned_round
  have h_against : FnD l.prog w K mg base 6 T.a_against T.d_against ["sky", "picture", "standing"] sp_against := ok_against T h_greatest h_nexts_of h_short_lot h_sure_nexts
  have h_fits : FnD l.prog w K mg base 7 T.a_fits T.d_fits ["sky", "picture", "standing"] sp_fits := ok_fits T h_against
  have h_plain_reading : FnD l.prog w K mg base 8 T.a_plain_reading T.d_plain_reading ["sky", "picture"] sp_plain_reading := ok_plain_reading T h_Camera_check_picture h_Sky_standings h_fits
  have h_shifts_of : FnD l.prog w K mg base 2 T.a_shifts_of T.d_shifts_of ["sky", "point", "turn"] sp_shifts_of := ok_shifts_of T h_turned
  have h_votes_for : FnD l.prog w K mg base 3 T.a_votes_for T.d_votes_for ["sky", "picture", "turn"] sp_votes_for := ok_votes_for T h_shifts_of
  have h_voted_reading : FnD l.prog w K mg base 9 T.a_voted_reading T.d_voted_reading ["sky", "picture"] sp_voted_reading := ok_voted_reading T h_Camera_check_picture h_Sky_standings h_fits h_plain_reading h_votes_for
  have h__law_ground : FnD l.prog w K mg base 5 T.a__law_ground T.d__law_ground ["draw", "most", "side"] sp__law_ground := ok__law_ground T h_Ground___init__ h__law_take
  have h__law_camera : FnD l.prog w K mg base 4 T.a__law_camera T.d__law_camera ["draw"] sp__law_camera := ok__law_camera T h_Camera___init__ h__law_take
  have h__law_sky : FnD l.prog w K mg base 6 T.a__law_sky T.d__law_sky ["draw", "most"] sp__law_sky := ok__law_sky T h_Sky___init__ h__law_camera h__law_ground h__law_pick h__law_take
  have h__law_spots : FnD l.prog w K mg base 1 T.a__law_spots T.d__law_spots ["camera"] sp__law_spots := ok__law_spots T
  have h__law_picture : FnD l.prog w K mg base 4 T.a__law_picture T.d__law_picture ["draw", "sky", "standing"] sp__law_picture := ok__law_picture T h_Sky_places h__law_pick h__law_spots h__law_take
  exact ok_law T h_Sky_places h_Sky_standings h__law_pick h__law_picture h__law_sky h_plain_reading h_voted_reading h_votes_for
end M
open PySem PySem.W PyProof.Rows in
set_option maxRecDepth 100000 in
set_option maxHeartbeats 0 in
theorem PySem.Challenge.cw_moonfall_k62_whole_votes_holds : PySem.Challenge.rw_moonfall_k62_whole_votes.Holds := by
  w_on; o_law; k_head; (case hw => w_witness2)
  k_fill
  refine DL.walk_d (l := PySem.Challenge.rw_moonfall_k62_whole_votes) (k := 10) (x := "script") rfl rfl ⟨rfl, by decide, by decide⟩ (fun w h Y => PySem.W.kIn_of Y) ?F
  case F =>
    intro w mg fa h KX G hmg
    refine' M.all_mk KX G hmg ?e_Ground ?e_Camera ?e_Sky ?a0 ?l0 ?c0 ?k0 ?a1 ?l1 ?c1 ?k1 ?a2 ?l2 ?c2 ?k2 ?a3 ?l3 ?c3 ?k3 ?a4 ?l4 ?c4 ?k4 ?a5 ?l5 ?c5 ?k5 ?a6 ?i6 ?l6 ?c6 ?k6 ?a7 ?i7 ?l7 ?c7 ?k7 ?a8 ?i8 ?l8 ?c8 ?k8 ?a9 ?i9 ?l9 ?c9 ?k9 ?a10 ?i10 ?l10 ?c10 ?k10 ?a11 ?i11 ?l11 ?c11 ?k11 ?a12 ?i12 ?l12 ?c12 ?k12 ?a13 ?i13 ?l13 ?c13 ?k13 ?a14 ?i14 ?l14 ?c14 ?k14 ?a15 ?i15 ?l15 ?c15 ?k15 ?a16 ?l16 ?c16 ?k16 ?a17 ?l17 ?c17 ?k17 ?a18 ?l18 ?c18 ?k18 ?a19 ?l19 ?c19 ?k19 ?a20 ?l20 ?c20 ?k20 ?a21 ?l21 ?c21 ?k21 ?a22 ?l22 ?c22 ?k22 ?a23 ?l23 ?c23 ?k23 ?a24 ?l24 ?c24 ?k24 ?a25 ?l25 ?c25 ?k25 ?a26 ?l26 ?c26 ?k26 ?a27 ?l27 ?c27 ?k27 ?a28 ?l28 ?c28 ?k28 ?a29 ?l29 ?c29 ?k29 ?a30 ?l30 ?c30 ?k30 ?a31 ?l31 ?c31 ?k31 ?a32 ?l32 ?c32 ?k32 ?a33 ?l33 ?c33 ?k33 ?a34 ?l34 ?c34 ?k34 ?a35 ?l35 ?c35 ?k35 ?pg_Ground ?hd_Ground ?po_Ground ?sa_Ground ?mks_Ground ?kp_Ground ?pg_Camera ?hd_Camera ?po_Camera ?sa_Camera ?mks_Camera ?kp_Camera ?pg_Sky ?hd_Sky ?po_Sky ?sa_Sky ?mks_Sky ?kp_Sky ?n_Ground_craters ?n_Camera_width ?n_Camera_height ?n_Camera_error ?n_Camera_false ?n_Camera_lost ?n_Sky_ground ?n_Sky_camera ?n_Sky_turns ?n_Sky_area ?z_len ?z_int ?z_range ?z_bool ?z_isinstance ?z_tuple ?z_enumerate ?z_sorted ?z_all ?z_zip ?z_dict ?z_list ?z_abs ?z_max ?z_min ?z_any ?q_MOST_SIZE ?q_MOST_PLACE ?q_MOST_COUNT ?q_MOST_SIDE ?q_MOST_STANDINGS
    (case e_Ground => k_is)
    (case e_Camera => k_is)
    (case e_Sky => k_is)
    (case a0 => k_is)
    (case l0 => k_is)
    (case c0 => k_is)
    (case k0 => k_is)
    (case a1 => k_is)
    (case l1 => k_is)
    (case c1 => k_is)
    (case k1 => k_is)
    (case a2 => k_is)
    (case l2 => k_is)
    (case c2 => k_is)
    (case k2 => k_is)
    (case a3 => k_is)
    (case l3 => k_is)
    (case c3 => k_is)
    (case k3 => k_is)
    (case a4 => k_is)
    (case l4 => k_is)
    (case c4 => k_is)
    (case k4 => k_is)
    (case a5 => k_is)
    (case l5 => k_is)
    (case c5 => k_is)
    (case k5 => k_is)
    (case a6 => k_is)
    (case i6 => k_is)
    (case l6 => k_is)
    (case c6 => k_is)
    (case k6 => k_is)
    (case a7 => k_is)
    (case i7 => k_is)
    (case l7 => k_is)
    (case c7 => k_is)
    (case k7 => k_is)
    (case a8 => k_is)
    (case i8 => k_is)
    (case l8 => k_is)
    (case c8 => k_is)
    (case k8 => k_is)
    (case a9 => k_is)
    (case i9 => k_is)
    (case l9 => k_is)
    (case c9 => k_is)
    (case k9 => k_is)
    (case a10 => k_is)
    (case i10 => k_is)
    (case l10 => k_is)
    (case c10 => k_is)
    (case k10 => k_is)
    (case a11 => k_is)
    (case i11 => k_is)
    (case l11 => k_is)
    (case c11 => k_is)
    (case k11 => k_is)
    (case a12 => k_is)
    (case i12 => k_is)
    (case l12 => k_is)
    (case c12 => k_is)
    (case k12 => k_is)
    (case a13 => k_is)
    (case i13 => k_is)
    (case l13 => k_is)
    (case c13 => k_is)
    (case k13 => k_is)
    (case a14 => k_is)
    (case i14 => k_is)
    (case l14 => k_is)
    (case c14 => k_is)
    (case k14 => k_is)
    (case a15 => k_is)
    (case i15 => k_is)
    (case l15 => k_is)
    (case c15 => k_is)
    (case k15 => k_is)
    (case a16 => k_is)
    (case l16 => k_is)
    (case c16 => k_is)
    (case k16 => k_is)
    (case a17 => k_is)
    (case l17 => k_is)
    (case c17 => k_is)
    (case k17 => k_is)
    (case a18 => k_is)
    (case l18 => k_is)
    (case c18 => k_is)
    (case k18 => k_is)
    (case a19 => k_is)
    (case l19 => k_is)
    (case c19 => k_is)
    (case k19 => k_is)
    (case a20 => k_is)
    (case l20 => k_is)
    (case c20 => k_is)
    (case k20 => k_is)
    (case a21 => k_is)
    (case l21 => k_is)
    (case c21 => k_is)
    (case k21 => k_is)
    (case a22 => k_is)
    (case l22 => k_is)
    (case c22 => k_is)
    (case k22 => k_is)
    (case a23 => k_is)
    (case l23 => k_is)
    (case c23 => k_is)
    (case k23 => k_is)
    (case a24 => k_is)
    (case l24 => k_is)
    (case c24 => k_is)
    (case k24 => k_is)
    (case a25 => k_is)
    (case l25 => k_is)
    (case c25 => k_is)
    (case k25 => k_is)
    (case a26 => k_is)
    (case l26 => k_is)
    (case c26 => k_is)
    (case k26 => k_is)
    (case a27 => k_is)
    (case l27 => k_is)
    (case c27 => k_is)
    (case k27 => k_is)
    (case a28 => k_is)
    (case l28 => k_is)
    (case c28 => k_is)
    (case k28 => k_is)
    (case a29 => k_is)
    (case l29 => k_is)
    (case c29 => k_is)
    (case k29 => k_is)
    (case a30 => k_is)
    (case l30 => k_is)
    (case c30 => k_is)
    (case k30 => k_is)
    (case a31 => k_is)
    (case l31 => k_is)
    (case c31 => k_is)
    (case k31 => k_is)
    (case a32 => k_is)
    (case l32 => k_is)
    (case c32 => k_is)
    (case k32 => k_is)
    (case a33 => k_is)
    (case l33 => k_is)
    (case c33 => k_is)
    (case k33 => k_is)
    (case a34 => k_is)
    (case l34 => k_is)
    (case c34 => k_is)
    (case k34 => k_is)
    (case a35 => k_is)
    (case l35 => k_is)
    (case c35 => k_is)
    (case k35 => k_is)
    (case pg_Ground => k_is)
    (case hd_Ground => k_is)
    (case po_Ground => k_is)
    (case sa_Ground => k_is)
    (case mks_Ground => k_is)
    (case kp_Ground => k_is)
    (case pg_Camera => k_is)
    (case hd_Camera => k_is)
    (case po_Camera => k_is)
    (case sa_Camera => k_is)
    (case mks_Camera => k_is)
    (case kp_Camera => k_is)
    (case pg_Sky => k_is)
    (case hd_Sky => k_is)
    (case po_Sky => k_is)
    (case sa_Sky => k_is)
    (case mks_Sky => k_is)
    (case kp_Sky => k_is)
    (case n_Ground_craters => k_is)
    (case n_Camera_width => k_is)
    (case n_Camera_height => k_is)
    (case n_Camera_error => k_is)
    (case n_Camera_false => k_is)
    (case n_Camera_lost => k_is)
    (case n_Sky_ground => k_is)
    (case n_Sky_camera => k_is)
    (case n_Sky_turns => k_is)
    (case n_Sky_area => k_is)
    (case z_len => k_is)
    (case z_int => k_is)
    (case z_range => k_is)
    (case z_bool => k_is)
    (case z_isinstance => k_is)
    (case z_tuple => k_is)
    (case z_enumerate => k_is)
    (case z_sorted => k_is)
    (case z_all => k_is)
    (case z_zip => k_is)
    (case z_dict => k_is)
    (case z_list => k_is)
    (case z_abs => k_is)
    (case z_max => k_is)
    (case z_min => k_is)
    (case z_any => k_is)
    (case q_MOST_SIZE => exact ⟨_, by k_is⟩)
    (case q_MOST_PLACE => exact ⟨_, by k_is⟩)
    (case q_MOST_COUNT => exact ⟨_, by k_is⟩)
    (case q_MOST_SIDE => exact ⟨_, by k_is⟩)
    (case q_MOST_STANDINGS => exact ⟨_, by k_is⟩)
