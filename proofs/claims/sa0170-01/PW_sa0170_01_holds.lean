import PyProof.Rows.All
import Wide.All
import OpenK.AllK
import Wide.FinOn
import Lean
import PySem.Challenge.RW_sa0170_01
set_option Elab.async false
set_option maxRecDepth 100000
set_option maxHeartbeats 0
set_option linter.all false
set_option compiler.extract_closed false
set_option genInjectivity false
set_option genSizeOfSpec false
set_option autoImplicit false
namespace Mine
section
open PySem PySem.W PyProof.Rows PySem.Calls PySem.Spec
inductive AV where
  | int (i : Int)
  | bool (b : Bool)
  | none
  | str (x : Str)
  | tup (l : List AV)
  | fl (l : List AV)
  | obj (k : Nat)
  | sd (l : List (Str × Value))
  | val (v : Value)
  | any
inductive MO where
  | list (l : List AV)
  | inst (C : Addr) (fs : List (Str × AV))
  | idict (l : List (Int × AV))
  | sdict (l : List (Str × AV))
  | ns (l : List (Str × AV))
noncomputable abbrev Hp := List MO
structure KP where
  K : Frag
  prog : Program
  w : World
noncomputable abbrev Fm := List (Str × AV)
noncomputable abbrev tupO (its : List Value) (n : Nat) : Obj := { cls := .type "tuple", data := .seq its.toArray n }
noncomputable abbrev lstO (its : List Value) (n : Nat) : Obj := { cls := .type "list", data := .seq its.toArray n }
structure LW where
  led : List (Addr × Obj)
  ad : List (Addr × Addr)
  own : List Addr
noncomputable def fz (o : Obj) : Bool := match o.data, o.cls with
  | .cell _, _ => true
  | _, .type n => n == "tuple" || n == "list" || n == "dict"
  | _, _ => false
mutual
inductive VR (K : KP) (x : LW) : AV → Value → Prop
  | int (i : Int) (t : Tok) : VR K x (.int i) (.int i t)
  | bool (b : Bool) : VR K x (.bool b) (.bool b)
  | none : VR K x .none .none
  | str (s : Str) (t : Tok) : VR K x (.str s) (.str s t)
  | tup {l : List AV} {its : List Value} {a : Addr} {n : Nat} : (a, tupO its n) ∈ x.led → a ∉ x.own → VRs K x l its → VR K x (.tup l) (.ref a)
  | ktup {l : List AV} {its : List Value} {a : Addr} {n : Nat} : K.K.lookup a = some (tupO its n) → VRs K x l its → VR K x (.tup l) (.ref a)
  | fl {l : List AV} {its : List Value} {a : Addr} {n : Nat} : (a, lstO its n) ∈ x.led → a ∉ x.own → VRs K x l its → VR K x (.fl l) (.ref a)
  | obj {k : Nat} {p : Addr × Addr} : x.ad[k]? = some p → VR K x (.obj k) (.ref p.1)
  | sd {l : List (Str × Value)} {o : Obj} {a : Addr} : (a, o) ∈ x.led → a ∉ x.own → (a == sysModules) = false → fz o = true → o.IsDictOf (PySem.strKind K.prog K.w) l → VR K x (.sd l) (.ref a)
  | val (v : Value) : VR K x (.val v) v
  | any (v : Value) : VR K x .any v
inductive VRs (K : KP) (x : LW) : List AV → List Value → Prop
  | nil : VRs K x [] []
  | cons {v : AV} {l : List AV} {u : Value} {us : List Value} : VR K x v u → VRs K x l us → VRs K x (v :: l) (u :: us)
end
structure Ext (x x' : LW) : Prop where
  ad : x.ad <+: x'.ad
  led : ∀ p ∈ x.led, p.1 ∉ x.own → p ∈ x'.led
  own : ∀ a ∈ x'.own, a ∈ x.own ∨ a ∉ x.led.map (·.1)
  keys : ∀ a ∈ x.led.map (·.1), a ∈ x'.led.map (·.1)
theorem Ext.refl (x : LW) : Ext x x := ⟨List.prefix_refl _, fun _ h _ => h, fun _ h => .inl h, fun _ h => h⟩
theorem Ext.off {x x' : LW} (e : Ext x x') {p : Addr × Obj} (hp : p ∈ x.led) (ho : p.1 ∉ x.own) : p.1 ∉ x'.own := fun h =>
  (e.own _ h).elim ho fun q => q (List.mem_map_of_mem hp)
theorem Ext.trans {x y z : LW} (e : Ext x y) (f : Ext y z) : Ext x z := by
  refine ⟨e.ad.trans f.ad, fun p hp ho => f.led p (e.led p hp ho) (e.off hp ho), fun a ha => ?_, fun a h => f.keys a (e.keys a h)⟩
  rcases f.own a ha with h | h
  · exact e.own a h
  · by_cases h1 : a ∈ x.own
    · exact .inl h1
    · refine .inr fun h2 => h ?_
      obtain ⟨p, hp, rfl⟩ := List.mem_map.mp h2
      exact List.mem_map_of_mem (e.led p hp h1)
theorem Ext.at {x x' : LW} (e : Ext x x') {k : Nat} {p : Addr × Addr} (h : x.ad[k]? = some p) : x'.ad[k]? = some p := by
  obtain ⟨t, ht⟩ := e.ad
  rw [← ht, List.getElem?_append_left (List.getElem?_eq_some_iff.mp h).1]
  exact h
structure ExtS (x x' : LW) : Prop where
  ad : x.ad <+: x'.ad
  led : ∀ p ∈ x.led, p.1 ∉ x.own → fz p.2 = true → p ∈ x'.led
  own : ∀ a ∈ x'.own, a ∈ x.own ∨ a ∉ x.led.map (·.1)
  keys : ∀ a ∈ x.led.map (·.1), a ∈ x'.led.map (·.1)
theorem Ext.toS {x x' : LW} (e : Ext x x') : ExtS x x' := ⟨e.ad, fun p h1 h2 _ => e.led p h1 h2, e.own, e.keys⟩
theorem ExtS.off {x x' : LW} (e : ExtS x x') {p : Addr × Obj} (hp : p ∈ x.led) (ho : p.1 ∉ x.own) : p.1 ∉ x'.own := fun h =>
  (e.own _ h).elim ho fun q => q (List.mem_map_of_mem hp)
theorem ExtS.refl (x : LW) : ExtS x x := (Ext.refl x).toS
theorem ExtS.trans {x y z : LW} (e : ExtS x y) (f : ExtS y z) : ExtS x z :=
  ⟨e.ad.trans f.ad, fun p hp ho hz => f.led p (e.led p hp ho hz) (e.off hp ho) hz, fun a ha => (f.own a ha).elim (e.own a) fun h => .inr fun q => h (e.keys a q), fun a h => f.keys a (e.keys a h)⟩
theorem ExtS.at {x x' : LW} (e : ExtS x x') {k : Nat} {p : Addr × Addr} (h : x.ad[k]? = some p) : x'.ad[k]? = some p := by
  obtain ⟨t, ht⟩ := e.ad
  rw [← ht, List.getElem?_append_left (List.getElem?_eq_some_iff.mp h).1]
  exact h
structure ExtV (x x' : LW) : Prop where
  ad : x.ad <+: x'.ad
  led : ∀ p ∈ x.led, p.1 ∉ x.own → fz p.2 = true → p ∈ x'.led ∧ p.1 ∉ x'.own
theorem ExtS.toV {x x' : LW} (e : ExtS x x') : ExtV x x' := ⟨e.ad, fun p h1 h2 h3 => ⟨e.led p h1 h2 h3, e.off h1 h2⟩⟩
theorem ExtV.at {x x' : LW} (e : ExtV x x') {k : Nat} {p : Addr × Addr} (h : x.ad[k]? = some p) : x'.ad[k]? = some p := by
  obtain ⟨t, ht⟩ := e.ad
  rw [← ht, List.getElem?_append_left (List.getElem?_eq_some_iff.mp h).1]
  exact h
theorem VR.monoV {K : KP} {x x' : LW} (e : ExtV x x') {v : AV} {u : Value} (h : VR K x v u) : VR K x' v u :=
  VR.rec (motive_1 := fun v u _ => VR K x' v u) (motive_2 := fun v u _ => VRs K x' v u) .int .bool .none .str (fun h1 h2 _ h3 => .tup (e.led _ h1 h2 rfl).1 (e.led _ h1 h2 rfl).2 h3) (fun h1 _ h3 => .ktup h1 h3) (fun h1 h2 _ h3 => .fl (e.led _ h1 h2 rfl).1 (e.led _ h1 h2 rfl).2 h3) (fun h => .obj (e.at h)) (fun h1 h2 h3 h4 h5 => .sd (e.led _ h1 h2 h4).1 (e.led _ h1 h2 h4).2 h3 h4 h5) .val .any .nil (fun _ _ h t => .cons h t) h
theorem VRs.monoV {K : KP} {x x' : LW} (e : ExtV x x') {v : List AV} {u : List Value} (h : VRs K x v u) : VRs K x' v u :=
  VRs.rec (motive_1 := fun v u _ => VR K x' v u) (motive_2 := fun v u _ => VRs K x' v u) .int .bool .none .str (fun h1 h2 _ h3 => .tup (e.led _ h1 h2 rfl).1 (e.led _ h1 h2 rfl).2 h3) (fun h1 _ h3 => .ktup h1 h3) (fun h1 h2 _ h3 => .fl (e.led _ h1 h2 rfl).1 (e.led _ h1 h2 rfl).2 h3) (fun h => .obj (e.at h)) (fun h1 h2 h3 h4 h5 => .sd (e.led _ h1 h2 h4).1 (e.led _ h1 h2 h4).2 h3 h4 h5) .val .any .nil (fun _ _ h t => .cons h t) h
theorem VR.monoS {K : KP} {x x' : LW} (e : ExtS x x') {v : AV} {u : Value} (r : VR K x v u) : VR K x' v u := r.monoV e.toV
theorem VRs.monoS {K : KP} {x x' : LW} (e : ExtS x x') {v : List AV} {u : List Value} (r : VRs K x v u) : VRs K x' v u := r.monoV e.toV
theorem VR.mono {K : KP} {x x' : LW} (e : Ext x x') {v : AV} {u : Value} (r : VR K x v u) : VR K x' v u := r.monoS e.toS
theorem VRs.mono {K : KP} {x x' : LW} (e : Ext x x') {v : List AV} {u : List Value} (r : VRs K x v u) : VRs K x' v u := r.monoS e.toS
section
variable {K : KP} {x : LW} {u : Value}
theorem VR.i {i : Int} (r : VR K x (.int i) u) : ∃ t, u = .int i t := by cases r; exact ⟨_, rfl⟩
theorem VR.v {v : Value} (r : VR K x (.val v) u) : u = v := by cases r; rfl
theorem VR.t {i : Bool} (r : VR K x (.bool i) u) : u = .bool i := by cases r; rfl
theorem VR.n (r : VR K x .none u) : u = .none := by cases r; rfl
theorem VR.s {s : Str} (r : VR K x (.str s) u) : ∃ t, u = .str s t := by cases r; exact ⟨_, rfl⟩
theorem VR.o {k : Nat} (r : VR K x (.obj k) u) : ∃ p, x.ad[k]? = some p ∧ u = .ref p.1 := by cases r with | obj h => exact ⟨_, h, rfl⟩
theorem VR.f {l : List AV} (r : VR K x (.fl l) u) : ∃ its a n, (a, lstO its n) ∈ x.led ∧ a ∉ x.own ∧ VRs K x l its ∧ u = .ref a := by cases r with | fl h1 h2 h3 => exact ⟨_, _, _, h1, h2, h3, rfl⟩
theorem VR.d {l : List (Str × Value)} (r : VR K x (.sd l) u) : ∃ o a, (a, o) ∈ x.led ∧ a ∉ x.own ∧ (a == sysModules) = false ∧ fz o = true ∧ o.IsDictOf (PySem.strKind K.prog K.w) l ∧ u = .ref a := by
  cases r with | sd h1 h2 h3 h4 h5 => exact ⟨_, _, h1, h2, h3, h4, h5, rfl⟩
end
theorem VRs.zz {K : KP} {x : LW} {us : List Value} (h : VRs K x [] us) : us = [] := by cases h; rfl
theorem VRs.cc {K : KP} {x : LW} {v : AV} {l : List AV} {us : List Value} (h : VRs K x (v :: l) us) : ∃ u t, us = u :: t ∧ VR K x v u ∧ VRs K x l t := by
  cases h with | cons h t => exact ⟨_, _, rfl, h, t⟩
theorem VRs.length {K : KP} {x : LW} {v : List AV} : ∀ {u : List Value}, VRs K x v u → v.length = u.length := by
  induction v with
  | nil => intro u h; rw [h.zz]; rfl
  | cons a v ih => intro u h; obtain ⟨_, _, rfl, _, t⟩ := h.cc; exact congrArg (· + 1) (ih t)
theorem VRs.get {K : KP} {x : LW} {l : List AV} : ∀ {us : List Value}, VRs K x l us → ∀ {i : Nat} {v : AV}, l[i]? = some v → ∃ u, us[i]? = some u ∧ VR K x v u := by
  induction l with
  | nil => intro us h i v e; cases e
  | cons a l ih =>
    intro us h i v e
    obtain ⟨u, _, rfl, h, t⟩ := h.cc
    cases i with
    | zero => exact ⟨u, rfl, Option.some.inj e ▸ h⟩
    | succ i => exact ih t e
theorem VRs.set {K : KP} {x : LW} {l : List AV} : ∀ {us : List Value}, VRs K x l us → ∀ (i : Nat) {v : AV} {u : Value}, VR K x v u → VRs K x (l.set i v) (us.set i u) := by
  induction l with
  | nil => intro us h i v u _; rw [h.zz]; exact .nil
  | cons a l ih =>
    intro us h i v u r
    obtain ⟨w, _, rfl, h, t⟩ := h.cc
    cases i with
    | zero => exact .cons r t
    | succ i => exact .cons h (ih t i r)
theorem VRs.append {K : KP} {x : LW} {l l' : List AV} {us' : List Value} : ∀ {us : List Value}, VRs K x l us → VRs K x l' us' → VRs K x (l ++ l') (us ++ us') := by
  induction l with
  | nil => intro us h r; rw [h.zz]; exact r
  | cons a l ih => intro us h r; obtain ⟨w, _, rfl, h, t⟩ := h.cc; exact .cons h (ih t r)
noncomputable def FsR (K : KP) (x : LW) : List (Str × AV) → List DictEntry → Prop
  | [], [] => True
  | f :: fs, e :: es => (∃ t, e.key = .str f.1 t) ∧ VR K x f.2 e.val ∧ FsR K x fs es
  | _, _ => False
theorem FsR.monoV {K : KP} {x x' : LW} (e : ExtV x x') {fs : List (Str × AV)} : ∀ {es : List DictEntry}, FsR K x fs es → FsR K x' fs es := by
  induction fs with
  | nil => intro es h; cases es with | nil => exact h | cons _ _ => exact h
  | cons f fs ih => intro es h; cases es with | nil => exact h | cons _ _ => exact ⟨h.1, VR.monoV e h.2.1, ih h.2.2⟩
theorem FsR.mono {K : KP} {x x' : LW} (e : Ext x x') {fs : List (Str × AV)} {es : List DictEntry} (r : FsR K x fs es) : FsR K x' fs es := r.monoV e.toS.toV
theorem FsR.length {K : KP} {x : LW} {fs : List (Str × AV)} : ∀ {es : List DictEntry}, FsR K x fs es → fs.length = es.length := by
  induction fs with
  | nil => intro es h; cases es with | nil => rfl | cons _ _ => exact h.elim
  | cons f fs ih => intro es h; cases es with | nil => exact h.elim | cons _ _ => exact congrArg (· + 1) (ih h.2.2)
noncomputable def KvR {α : Type} (K : KP) (x : LW) : List (α × AV) → List (α × Value) → Prop
  | [], [] => True
  | f :: fs, e :: es => f.1 = e.1 ∧ VR K x f.2 e.2 ∧ KvR K x fs es
  | _, _ => False
theorem KvR.monoV {α : Type} {K : KP} {x x' : LW} (e : ExtV x x') {fs : List (α × AV)} : ∀ {es : List (α × Value)}, KvR K x fs es → KvR K x' fs es := by
  induction fs with
  | nil => intro es h; cases es with | nil => exact h | cons _ _ => exact h
  | cons f fs ih => intro es h; cases es with | nil => exact h | cons _ _ => exact ⟨h.1, VR.monoV e h.2.1, ih h.2.2⟩
theorem KvR.length {α : Type} {K : KP} {x : LW} {fs : List (α × AV)} : ∀ {es : List (α × Value)}, KvR K x fs es → fs.length = es.length := by
  induction fs with
  | nil => intro es h; cases es with | nil => rfl | cons _ _ => exact h.elim
  | cons f fs ih => intro es h; cases es with | nil => exact h.elim | cons _ _ => exact congrArg (· + 1) (ih h.2.2)
noncomputable def NsO (o : Obj) (m : Str → Option Value) : Prop := ∃ es ep, o.data = .dict es ep ∧ StrKeys es ∧ ∀ name, nsFind es name = m name
noncomputable def ORel (K : KP) (x : LW) (p : Addr × Addr) : MO → Prop
  | .list l => ∃ its n, (p.1, lstO its n) ∈ x.led ∧ VRs K x l its
  | .inst C fs => ∃ es n, (p.1, instObj C p.2) ∈ x.led ∧ (p.2, dictOf es n) ∈ x.led ∧ FsR K x fs es
  | .idict l => ∃ o us, (p.1 == sysModules) = false ∧ (p.1, o) ∈ x.led ∧ o.IsDictOf (PySem.intKind K.prog K.w) us ∧ KvR K x l us
  | .sdict l => ∃ o us, (p.1 == sysModules) = false ∧ (p.1, o) ∈ x.led ∧ o.IsDictOf (PySem.strKind K.prog K.w) us ∧ KvR K x l us
  | .ns l => ∃ o m, (p.1, o) ∈ x.led ∧ NsO o m ∧ ∀ y v, (y, v) ∈ l → ∃ u, m y = some u ∧ VR K x v u
noncomputable def ownOf (p : Addr × Addr) : MO → List Addr
  | .list _ => [p.1]
  | .inst _ _ => [p.1, p.2]
  | .idict _ => [p.1]
  | .sdict _ => [p.1]
  | .ns _ => [p.1]
noncomputable def ownAll : Hp → List (Addr × Addr) → List Addr
  | O :: H, p :: ad => ownOf p O ++ ownAll H ad
  | _, _ => []
structure LwOk (K : KP) (H : Hp) (x : LW) : Prop where
  keys : (x.led.map (·.1)).Nodup
  own : x.own = ownAll H x.ad
  nd : x.own.Nodup
  len : x.ad.length = H.length
  objs : ∀ (k : Nat) (O : MO) (p : Addr × Addr), H[k]? = some O → x.ad[k]? = some p → ORel K x p O
theorem ownAll_mem : ∀ {H : Hp} {ad : List (Addr × Addr)} {k : Nat} {O : MO} {p : Addr × Addr} {a : Addr}, H[k]? = some O → ad[k]? = some p → a ∈ ownOf p O → a ∈ ownAll H ad
  | [], _, k, O, p, a, h, _, _ => by simp at h
  | _ :: _, [], k, O, p, a, _, h, _ => by simp at h
  | O' :: H, p' :: ad, 0, O, p, a, h, h', ha => by
    simp only [List.getElem?_cons_zero, Option.some.injEq] at h h'
    subst h h'
    exact List.mem_append_left _ ha
  | O' :: H, p' :: ad, k + 1, O, p, a, h, h', ha => by
    simp only [List.getElem?_cons_succ] at h h'
    exact List.mem_append_right _ (ownAll_mem h h' ha)
theorem ownAll_apart : ∀ {H : Hp} {ad : List (Addr × Addr)} {j k : Nat} {O O' : MO} {p p' : Addr × Addr} {a b : Addr}, (ownAll H ad).Nodup → H[j]? = some O → ad[j]? = some p → H[k]? = some O' → ad[k]? = some p' → j ≠ k →
    a ∈ ownOf p O → b ∈ ownOf p' O' → a ≠ b
  | [], _, j, k, O, O', p, p', a, b, _, h, _, _, _, _, _, _ => by simp at h
  | _ :: _, [], j, k, O, O', p, p', a, b, _, _, h, _, _, _, _, _ => by simp at h
  | X :: H, q :: ad, 0, 0, _, _, _, _, _, _, _, _, _, _, _, n, _, _ => absurd rfl n
  | X :: H, q :: ad, 0, k + 1, O, O', p, p', a, b, nd, h1, h2, h3, h4, _, ha, hb => by
    simp only [List.getElem?_cons_zero, Option.some.injEq, List.getElem?_cons_succ] at h1 h2 h3 h4
    subst h1 h2
    exact (List.nodup_append.mp nd).2.2 _ ha _ (ownAll_mem h3 h4 hb)
  | X :: H, q :: ad, j + 1, 0, O, O', p, p', a, b, nd, h1, h2, h3, h4, _, ha, hb => by
    simp only [List.getElem?_cons_zero, Option.some.injEq, List.getElem?_cons_succ] at h1 h2 h3 h4
    subst h3 h4
    exact Ne.symm ((List.nodup_append.mp nd).2.2 _ hb _ (ownAll_mem h1 h2 ha))
  | X :: H, q :: ad, j + 1, k + 1, O, O', p, p', a, b, nd, h1, h2, h3, h4, n, ha, hb => by
    simp only [List.getElem?_cons_succ] at h1 h2 h3 h4
    exact ownAll_apart (List.nodup_append.mp nd).2.1 h1 h2 h3 h4 (fun e => n (by rw [e])) ha hb
noncomputable def sameKind : MO → MO → Prop
  | .list _, .list _ => True
  | .inst _ _, .inst _ _ => True
  | .idict _, .idict _ => True
  | .sdict _, .sdict _ => True
  | .ns _, .ns _ => True
  | _, _ => False
theorem ownOf_same {p : Addr × Addr} {O O' : MO} (h : sameKind O O') : ownOf p O = ownOf p O' := by
  cases O <;> cases O' <;> first | rfl | exact h.elim
theorem ownAll_set : ∀ {H : Hp} {ad : List (Addr × Addr)} {k : Nat} {O O' : MO}, H[k]? = some O → sameKind O O' → ownAll (H.set k O') ad = ownAll H ad
  | [], _, k, O, O', h, _ => by simp at h
  | X :: H, [], 0, O, O', h, _ => rfl
  | X :: H, [], k + 1, O, O', h, _ => rfl
  | X :: H, p :: ad, 0, O, O', h, s => by
    simp only [List.getElem?_cons_zero, Option.some.injEq] at h
    subst h
    show ownOf p O' ++ _ = ownOf p X ++ _
    rw [ownOf_same s]
  | X :: H, p :: ad, k + 1, O, O', h, s => by
    simp only [List.getElem?_cons_succ] at h
    show ownOf p X ++ _ = ownOf p X ++ _
    rw [ownAll_set h s]
noncomputable def setAt (led : List (Addr × Obj)) (d : Addr) (o : Obj) : List (Addr × Obj) := led.map fun q => if q.1 = d then (d, o) else q
theorem setAt_keys (led : List (Addr × Obj)) (d : Addr) (o : Obj) : (setAt led d o).map (·.1) = led.map (·.1) := by
  unfold setAt
  rw [List.map_map]
  apply List.map_congr_left
  intro q _
  show (if q.1 = d then (d, o) else q).1 = q.1
  split
  · rename_i h; exact h.symm
  · rfl
theorem mem_setAt_ne {led : List (Addr × Obj)} {d : Addr} {o : Obj} {p : Addr × Obj} (h : p ∈ led) (n : p.1 ≠ d) : p ∈ setAt led d o := by
  unfold setAt
  refine List.mem_map.mpr ⟨p, h, if_neg n⟩
theorem mem_setAt_self {led : List (Addr × Obj)} {d : Addr} {o o₀ : Obj} (h : (d, o₀) ∈ led) : (d, o) ∈ setAt led d o := by
  unfold setAt
  exact List.mem_map.mpr ⟨(d, o₀), h, if_pos rfl⟩
theorem upd_setAt : ∀ {led : List (Addr × Obj)} {d : Addr} {o o' : Obj}, (led.map (·.1)).Nodup → (d, o) ∈ led → Upd d o o' led (setAt led d o')
  | [], _, _, _, _, h => nomatch h
  | q :: led, d, o, o', nd, h => by
    rw [List.map_cons, List.nodup_cons] at nd
    rcases List.mem_cons.mp h with e | h
    · subst e
      have hr : setAt led d o' = led := by
        unfold setAt
        conv => rhs; rw [← List.map_id led]
        apply List.map_congr_left
        intro q hq
        refine if_neg fun e => nd.1 ?_
        show d ∈ _
        rw [← e]
        exact List.mem_map_of_mem hq
      have : setAt ((d, o) :: led) d o' = (d, o') :: setAt led d o' := by
        unfold setAt
        rw [List.map_cons, if_pos rfl]
      rw [this, hr]
      exact .head fun p hp e => nd.1 (by have := List.mem_map_of_mem (f := Prod.fst) hp; rw [e] at this; exact this)
    · have hn : q.1 ≠ d := fun e => nd.1 (by have := List.mem_map_of_mem (f := Prod.fst) h; rw [e]; exact this)
      have : setAt (q :: led) d o' = q :: setAt led d o' := by
        unfold setAt
        rw [List.map_cons, if_neg hn]
      rw [this]
      exact .tail hn (upd_setAt nd.2 h)
noncomputable def LW.put (x : LW) (d : Addr) (o : Obj) : LW := { x with led := setAt x.led d o }
theorem LW.put_ext {x : LW} {d : Addr} {o : Obj} (h : d ∈ x.own) : Ext x (x.put d o) :=
  ⟨List.prefix_refl _, fun p hp ho => mem_setAt_ne hp fun e => ho (e ▸ h), fun _ h => .inl h, fun a h => by show a ∈ (setAt x.led d o).map (·.1); rw [setAt_keys]; exact h⟩
theorem ORel.monoV {K : KP} {x x' : LW} {p : Addr × Addr} (e : ExtV x x') {O : MO} (r : ORel K x p O) (h : ∀ a o, a ∈ ownOf p O → (a, o) ∈ x.led → (a, o) ∈ x'.led) : ORel K x' p O := by
  cases O with
  | list _ => obtain ⟨its, n, a, b⟩ := r; exact ⟨its, n, h _ _ (.head _) a, b.monoV e⟩
  | inst _ _ => obtain ⟨es, n, a, b, c⟩ := r; exact ⟨es, n, h _ _ (.head _) a, h _ _ (.tail _ (.head _)) b, FsR.monoV e c⟩
  | idict _ => obtain ⟨o, us, z, a, b, c⟩ := r; exact ⟨o, us, z, h _ _ (.head _) a, b, c.monoV e⟩
  | sdict _ => obtain ⟨o, us, z, a, b, c⟩ := r; exact ⟨o, us, z, h _ _ (.head _) a, b, c.monoV e⟩
  | ns _ => obtain ⟨o, m, a, b, c⟩ := r; exact ⟨o, m, h _ _ (.head _) a, b, fun y v q => (c y v q).elim fun u d => ⟨u, d.1, VR.monoV e d.2⟩⟩
theorem ORel.mono {K : KP} {x x' : LW} {p : Addr × Addr} (e : Ext x x') {O : MO} (r : ORel K x p O) (h : ∀ a o, a ∈ ownOf p O → (a, o) ∈ x.led → (a, o) ∈ x'.led) : ORel K x' p O := r.monoV e.toS.toV h
theorem LwOk.put {K : KP} {H : Hp} {x : LW} (W : LwOk K H x) {k : Nat} {O O' : MO} {p : Addr × Addr} {d : Addr} {o : Obj} (hk : H[k]? = some O) (hp : x.ad[k]? = some p) (hd : d ∈ ownOf p O) (hs : sameKind O O')
    (hO : ORel K (x.put d o) p O') : LwOk K (H.set k O') (x.put d o) := by
  have hown : d ∈ x.own := W.own ▸ ownAll_mem hk hp hd
  refine ⟨?_, ?_, W.nd, ?_, fun j Oj pj hj hpj => ?_⟩
  · show ((setAt x.led d o).map (·.1)).Nodup
    rw [setAt_keys]; exact W.keys
  · show x.own = ownAll (H.set k O') x.ad
    rw [ownAll_set hk hs]; exact W.own
  · show x.ad.length = _
    rw [List.length_set]; exact W.len
  · have hpj : x.ad[j]? = some pj := hpj
    by_cases e : k = j
    · subst e
      rw [List.getElem?_set_self (List.getElem?_eq_some_iff.mp hk).1] at hj
      cases hj
      rw [hp] at hpj
      cases hpj
      exact hO
    · rw [List.getElem?_set_ne e] at hj
      exact (W.objs j Oj pj hj hpj).mono (LW.put_ext hown) fun a o' ha hm => mem_setAt_ne hm (ownAll_apart (W.own ▸ W.nd) hj hpj hk hp (Ne.symm e) ha hd)
end
section
open PySem PySem.W PyProof.Rows PySem.Calls PySem.Spec
structure Wd where
  prog : Program
  w : World
  K : Frag
  pq : Program
  loose : List Str
  mean : ExcName → Option Value
  mg : Str → Option Value
  mb : Str → Option Value
noncomputable abbrev Wd.kp (W : Wd) : KP := ⟨W.K, W.prog, W.w⟩
structure Cx where
  A₀ : Around
  A : Around
  base : Heap
  h₀ : Heap
  outer : List Env
  qual : Str
  L : Addr
  f : Addr
  cd : Value
  cl : List (Str × Addr)
noncomputable abbrev Cx.env (c : Cx) (sc : Scope) : Env := envX c.qual sc c.L c.f c.cd c.cl
structure CxOk (W : Wd) (b : Bool) (d : Nat) (sc : Scope) (c : Cx) : Prop where
  B : Below c.A₀ c.base c.outer c.h₀
  hA : c.A.frames = some (c.env sc :: c.outer)
  hk : sc.kind = .function
  XB : W.K.In c.base
  TB : Top W.pq W.loose W.mean W.mg W.mb c.base
  dep : c.A.depth + d < 1000
  un : c.A.units + 4 * d + 100 < 9900
  hh : b = true → c.A.handled = none
  lc : ∀ y a, c.cl.lookup y = some a → sc.names.lookup y = some .cell
  d1 : 302 ≤ c.A.depth
  tp : c.A.depth = 302 → c.outer = []
  lc2 : ∀ y, sc.names.lookup y = some .cell → ∃ a, c.cl.lookup y = some a
theorem look_mem {y : Str} {k : NameKind} : ∀ {l : List (Str × NameKind)}, l.lookup y = some k → ∃ z ∈ l, z.2 = k
  | [], h => by cases h
  | z :: l, h => by
    rw [List.lookup_cons] at h
    cases q : y == z.1 with
    | true => rw [q] at h; cases h; exact ⟨z, .head _, rfl⟩
    | false => rw [q] at h; obtain ⟨w, h1, h2⟩ := look_mem h; exact ⟨w, .tail _ h1, h2⟩
theorem no_cell {l : List (Str × NameKind)} (h : ∀ x ∈ l, x.2 ≠ .cell) {c : List (Str × Addr)} : ∀ y, l.lookup y = some .cell → ∃ a, c.lookup y = some a := fun y q => by
  obtain ⟨z, h1, h2⟩ := look_mem q
  exact absurd h2 (h z h1)
theorem CxOk.X {W : Wd} {b : Bool} {d : Nat} {sc : Scope} {c : Cx} (O : CxOk W b d sc c) : W.K.In c.h₀ := O.XB.keeps O.B.stays
theorem CxOk.T {W : Wd} {b : Bool} {d : Nat} {sc : Scope} {c : Cx} (O : CxOk W b d sc c) : Top W.pq W.loose W.mean W.mg W.mb c.h₀ := O.TB.keeps O.B.stays
theorem CxOk.nl {W : Wd} {b : Bool} {d : Nat} {sc : Scope} {c : Cx} (O : CxOk W b d sc c) {y : Str} (h : sc.names.lookup y = some .local) : c.cl.lookup y = none := by
  cases q : c.cl.lookup y with
  | none => rfl
  | some a => have := O.lc y a q; rw [h] at this; cases this
inductive Loc : List Str → List (Option AV) → Str → AV → Prop
  | z {ns : List Str} {fr : List (Option AV)} {y : Str} {v : AV} : Loc (y :: ns) (some v :: fr) y v
  | s {ns : List Str} {fr : List (Option AV)} {y z : Str} {v : AV} {o : Option AV} : Loc ns fr y v → Loc (z :: ns) (o :: fr) y v
inductive Put : List Str → List (Option AV) → Str → AV → List (Option AV) → Prop
  | z {ns : List Str} {fr : List (Option AV)} {y : Str} {v : AV} {o : Option AV} : Put (y :: ns) (o :: fr) y v (some v :: fr)
  | s {ns : List Str} {fr fr' : List (Option AV)} {y z : Str} {v : AV} {o : Option AV} : Put ns fr y v fr' → Put (z :: ns) (o :: fr) y v (o :: fr')
theorem Loc.mem {ns : List Str} {fr : List (Option AV)} {y : Str} {v : AV} (h : Loc ns fr y v) : y ∈ ns := by
  induction h with
  | z => exact .head _
  | s _ ih => exact .tail _ ih
theorem Put.mem {ns : List Str} {fr fr' : List (Option AV)} {y : Str} {v : AV} (h : Put ns fr y v fr') : y ∈ ns := by
  induction h with
  | z => exact .head _
  | s _ ih => exact .tail _ ih
theorem Put.back {ns : List Str} {fr fr' : List (Option AV)} {y : Str} {v : AV} (h : Put ns fr y v fr') : ns.Nodup → ∀ {z : Str} {u : AV}, Loc ns fr' z u → (z = y ∧ u = v) ∨ (z ≠ y ∧ Loc ns fr z u) := by
  induction h with
  | z =>
    intro nd z u l
    rw [List.nodup_cons] at nd
    cases l with
    | z => exact .inl ⟨rfl, rfl⟩
    | s l => exact .inr ⟨fun e => nd.1 (e ▸ l.mem), .s l⟩
  | s p ih =>
    intro nd z u l
    rw [List.nodup_cons] at nd
    cases l with
    | z => exact .inr ⟨fun e => nd.1 (e ▸ p.mem), .z⟩
    | s l =>
      rcases ih nd.2 l with h | ⟨h1, h2⟩
      · exact .inl h
      · exact .inr ⟨h1, .s h2⟩
noncomputable abbrev Fr2 := List Str × List (Option AV)
noncomputable def HV (c : Cx) (x : LW) (m : Str → Option Value) (y : Str) (u : Value) : Prop :=
  (c.cl.lookup y = none ∧ m y = some u) ∨ ∃ a o, c.cl.lookup y = some a ∧ (a, o) ∈ x.led ∧ a ∉ x.own ∧ o.data = .cell (some u)
theorem fz_cell {o : Obj} {u : Option Value} (h : o.data = .cell u) : fz o = true := by unfold fz; rw [h]
theorem HV.monoV {c : Cx} {x x' : LW} {m : Str → Option Value} {y : Str} {u : Value} (e : ExtV x x') : HV c x m y u → HV c x' m y u
  | .inl h => .inl h
  | .inr ⟨a, o, h1, h2, h3, h4⟩ => .inr ⟨a, o, h1, (e.led _ h2 h3 (fz_cell h4)).1, (e.led _ h2 h3 (fz_cell h4)).2, h4⟩
noncomputable def FrR (K : KP) (c : Cx) (x : LW) (fr : Fr2) (m : Str → Option Value) : Prop := fr.1.Nodup ∧ ∀ y v, Loc fr.1 fr.2 y v → ∃ u, HV c x m y u ∧ VR K x v u
theorem FrR.monoV {K : KP} {c : Cx} {x x' : LW} {fr : Fr2} {m : Str → Option Value} (e : ExtV x x') (F : FrR K c x fr m) : FrR K c x' fr m :=
  ⟨F.1, fun y v l => let ⟨u, a, b⟩ := F.2 y v l; ⟨u, a.monoV e, b.monoV e⟩⟩
theorem FrR.mono {K : KP} {c : Cx} {x x' : LW} {fr : Fr2} {m : Str → Option Value} (e : Ext x x') (F : FrR K c x fr m) : FrR K c x' fr m := F.monoV e.toS.toV
theorem FrR.put {K : KP} {c : Cx} {x : LW} {ns : List Str} {fr fr' : List (Option AV)} {m : Str → Option Value} {y : Str} {v : AV} {u : Value} (F : FrR K c x (ns, fr) m) (p : Put ns fr y v fr') (r : VR K x v u) (hy : c.cl.lookup y = none) : FrR K c x (ns, fr') (fun z => if z = y then some u else m z) := by
  refine ⟨F.1, fun z w l => ?_⟩
  rcases p.back F.1 l with ⟨rfl, rfl⟩ | ⟨h1, h2⟩
  · exact ⟨u, .inl ⟨hy, if_pos rfl⟩, r⟩
  · obtain ⟨u', a, b⟩ := F.2 z w h2
    refine ⟨u', ?_, b⟩
    rcases a with ⟨a1, a2⟩ | a
    · exact .inl ⟨a1, (if_neg h1).trans a2⟩
    · exact .inr a
theorem FrR.loc {K : KP} {c : Cx} {x : LW} {ns : List Str} {fr : List (Option AV)} {m : Str → Option Value} {y : Str} {v : AV} (F : FrR K c x (ns, fr) m) (l : Loc ns fr y v) (hy : c.cl.lookup y = none) : ∃ u, m y = some u ∧ VR K x v u := by
  obtain ⟨u, a, b⟩ := F.2 y v l
  rcases a with ⟨_, a⟩ | ⟨a, o, a1, _⟩
  · exact ⟨u, a, b⟩
  · rw [hy] at a1; cases a1
structure At (W : Wd) (c : Cx) (m : Str → Option Value) (H : Hp) (h : Heap) (x : LW) : Prop where
  F : Fr c.h₀ c.L h m
  N : News c.h₀ c.L h x.led
  ok : LwOk W.kp H x
section
variable (W : Wd) (b : Bool) (d : Nat) (sc : Scope)
noncomputable def Ev (e : PySem.Expr) (fr : Fr2) (H : Hp) (v : AV) (H' : Hp) : Prop :=
  ∀ (c : Cx), CxOk W b d sc c → ∀ (s : Shared) (m : Str → Option Value) (x : LW), At W c m H s.heap x → FrR W.kp c x fr m → ∀ (Q : Value → Shared → Prop) (E : Value → Shared → Prop),
    (∀ u h' t' x', At W c m H' h' x' → Ext x x' → VR W.kp x' v u → Q u { s with heap := h', toks := t' }) → wpAny (model W.prog W.w) c.A (eval e (c.env sc)) Q E s
noncomputable def Evs (es : List PySem.Expr) (fr : Fr2) (H : Hp) (vs : List AV) (H' : Hp) : Prop :=
  ∀ (c : Cx), CxOk W b d sc c → ∀ (s : Shared) (m : Str → Option Value) (x : LW), At W c m H s.heap x → FrR W.kp c x fr m → ∀ (pos : Pos) (Q : List Value → Shared → Prop) (E : Value → Shared → Prop),
    (∀ us h' t' x', At W c m H' h' x' → Ext x x' → VRs W.kp x' vs us → Q us { s with heap := h', toks := t' }) → wpAny (model W.prog W.w) c.A (spliced (backTo pos (starEach es (c.env sc)))) Q E s
noncomputable def Ts (e : PySem.Expr) (fr : Fr2) (H : Hp) (v : Bool) (H' : Hp) : Prop :=
  ∀ (c : Cx), CxOk W b d sc c → ∀ (s : Shared) (m : Str → Option Value) (x : LW), At W c m H s.heap x → FrR W.kp c x fr m → ∀ (Q : Bool → Shared → Prop) (E : Value → Shared → Prop),
    (∀ h' t' x', At W c m H' h' x' → Ext x x' → Q v { s with heap := h', toks := t' }) → wpAny (model W.prog W.w) c.A (isTrue e (c.env sc) (eval e (c.env sc))) Q E s
inductive Fl where
  | next | brk | cont
  | ret (v : AV)
noncomputable def FlR (K : KP) (x : LW) : Fl → Flow → Prop
  | .next, .next => True
  | .brk, .brk => True
  | .cont, .cont => True
  | .ret v, .ret u => VR K x v u
  | _, _ => False
noncomputable def Ex (st : PySem.Stmt) (fr : Fr2) (H : Hp) (fl : Fl) (fr' : Fr2) (H' : Hp) : Prop :=
  ∀ (c : Cx), CxOk W b d sc c → ∀ (s : Shared) (m : Str → Option Value) (x : LW), At W c m H s.heap x → FrR W.kp c x fr m → ∀ (Q : Flow → Shared → Prop) (E : Value → Shared → Prop),
    (∀ f m' h' t' x', At W c m' H' h' x' → FrR W.kp c x' fr' m' → Ext x x' → FlR W.kp x' fl f → Q f { s with heap := h', toks := t' }) → wpAny (model W.prog W.w) c.A (exec st (c.env sc)) Q E s
noncomputable def Exs (st : List PySem.Stmt) (fr : Fr2) (H : Hp) (fl : Fl) (fr' : Fr2) (H' : Hp) : Prop :=
  ∀ (c : Cx), CxOk W b d sc c → ∀ (s : Shared) (m : Str → Option Value) (x : LW), At W c m H s.heap x → FrR W.kp c x fr m → ∀ (Q : Flow → Shared → Prop) (E : Value → Shared → Prop),
    (∀ f m' h' t' x', At W c m' H' h' x' → FrR W.kp c x' fr' m' → Ext x x' → FlR W.kp x' fl f → Q f { s with heap := h', toks := t' }) → wpAny (model W.prog W.w) c.A (execs st (c.env sc)) Q E s
end
noncomputable def Cl (W : Wd) (b : Bool) (d : Nat) (f : Addr) (args : List AV) (H : Hp) (r : AV) (H' : Hp) : Prop :=
  ∀ (sc : Scope) (c : Cx), CxOk W b d sc c → ∀ (s : Shared) (m : Str → Option Value) (x : LW), At W c m H s.heap x → ∀ (us : List Value), VRs W.kp x args us → ∀ (R : Result → Shared → Prop),
    (∀ u h' t' x', At W c m H' h' x' → Ext x x' → VR W.kp x' r u → R (.ok (.ret u)) { s with heap := h', toks := t' }) → codeAny (model W.prog W.w) c.A (.call (.ref f) ⟨us, []⟩) R s
section
variable {W : Wd} {b : Bool} {d : Nat} {sc : Scope} {fr : Fr2} {H H' H'' : Hp} {v v' : AV}
theorem Ev.ofLocal {y : Str} {p : Pos} {ns : List Str} {vs : List (Option AV)} (l : Loc ns vs y v) (hx : sc.names.lookup y = some .local) (hd : (y == ("__debug__" : Str)) = false) : Ev W b d sc (.Name y p) (ns, vs) H v H := by
  intro c O s m x A F Q E h
  obtain ⟨u, hu, r⟩ := F.loc l (O.nl hx)
  exact nameX_L A.F hu (h u s.heap s.toks x A (Ext.refl x) r) O.hk hx hd
theorem Ev.ofCell {y : Str} {p : Pos} {ns : List Str} {vs : List (Option AV)} (l : Loc ns vs y v) (hx : sc.names.lookup y = some .cell) (hd : (y == ("__debug__" : Str)) = false) : Ev W b d sc (.Name y p) (ns, vs) H v H := by
  intro c O s m x A F Q E h
  obtain ⟨u, hu, r⟩ := F.2 y v l
  obtain ⟨a', ha'⟩ := O.lc2 y hx
  rcases hu with ⟨hu, _⟩ | ⟨a, o, h1, h2, h3, h4⟩
  · rw [ha'] at hu; cases hu
  · exact nameX_C A.N h1 h2 h4 (h u s.heap s.toks x A (Ext.refl x) r) O.hk hx hd
theorem Ev.ofGlobal {y : Str} {p : Pos} {u : Value} (e : nsIn W.K mainGlobals y = some (some u)) (r : ∀ x, VR W.kp x v u) (hx : sc.names.lookup y = some .globalImplicit) (hd : (y == ("__debug__" : Str)) = false) : Ev W b d sc (.Name y p) fr H v H := by
  intro c O s m x A F Q E h
  exact nameX_K A.F O.X (topRead_of O.T) e (h u s.heap s.toks x A (Ext.refl x) (r x)) O.hk hx hd
theorem Ev.ofBuiltin {y : Str} {p : Pos} {u : Value} (e : nsIn W.K mainGlobals y = some none) (hv : bootBuiltins y = some u) (hn : y ≠ "__name__") (hx : sc.names.lookup y = some .globalImplicit) (hd : (y == ("__debug__" : Str)) = false) : Ev W b d sc (.Name y p) fr H (.val u) H := by
  intro c O s m x A F Q E h
  exact nameX_B A.F O.X (topRead_of O.T) e hv hn (h u s.heap s.toks x A (Ext.refl x) (.val u)) O.hk hx hd
theorem Ev.int {i : Int} {k : Nat} {p : Pos} : Ev W b d sc (.Constant (.int i) k p) fr H (.int i) H := by
  intro c O s m x A F Q E h
  exact wpAny_Constant_int (h _ s.heap _ x A (Ext.refl x) (.int i _))
theorem Ev.none {k : Nat} {p : Pos} : Ev W b d sc (.Constant .none k p) fr H .none H := by
  intro c O s m x A F Q E h
  exact wpAny_Constant_none (h _ s.heap s.toks x A (Ext.refl x) .none)
theorem Ev.bool {i : Bool} {k : Nat} {p : Pos} : Ev W b d sc (.Constant (.bool i) k p) fr H (.bool i) H := by
  intro c O s m x A F Q E h
  exact wpAny_Constant_bool (h _ s.heap s.toks x A (Ext.refl x) (.bool i))
theorem Ev.str {i : Str} {k : Nat} {p : Pos} : Ev W b d sc (.Constant (.str i) k p) fr H (.str i) H := by
  intro c O s m x A F Q E h
  exact wpAny_Constant_str (h _ s.heap _ x A (Ext.refl x) (.str i _))
end
end
section
open PySem PySem.W PyProof.Rows PySem.Calls PySem.Spec
noncomputable def AV.plain : AV → Bool
  | .val (.ref _) => true
  | .val _ => false
  | .any => false
  | _ => true
theorem AV.handed {K : KP} {x : LW} {v : AV} {u : Value} (r : VR K x v u) (h : v.plain = true) : handedIn u = true := by
  cases r with
  | val u => cases u <;> first | rfl | (simp [AV.plain] at h)
  | any u => simp [AV.plain] at h
  | _ => rfl
theorem isStr_eq {x y : Str} {t : Tok} : (Value.str x t).isStr y = (x == y) := rfl
theorem FsR.get {K : KP} {x : LW} {n : Str} {v : AV} {fs : List (Str × AV)} : ∀ {es : List DictEntry}, FsR K x fs es → (fs.map (·.1)).Nodup → (n, v) ∈ fs → ∃ u, getL n es = some (some u) ∧ VR K x v u := by
  induction fs with
  | nil => intro es r nd h; cases h
  | cons f fs ih =>
    intro es r nd h
    cases es with
    | nil => exact r.elim
    | cons e es =>
    obtain ⟨⟨t, a⟩, b, c⟩ := r
    rw [List.map_cons, List.nodup_cons] at nd
    rcases List.mem_cons.mp h with q | h
    · subst q
      refine ⟨e.val, ?_, b⟩
      unfold getL
      rw [List.find?_cons, a, isStr_eq, beq_self_eq_true]
    · have ne : f.1 ≠ n := fun q => nd.1 (by have := List.mem_map_of_mem (f := Prod.fst) h; rw [q]; exact this)
      obtain ⟨u, g, r⟩ := ih c nd.2 h
      refine ⟨u, ?_, r⟩
      unfold getL at g ⊢
      rw [List.find?_cons, a, isStr_eq, beq_eq_false_iff_ne.mpr ne]
      dsimp only
      cases q : es.find? (fun d => d.key.isStr n) with
      | some e' => rw [q] at g; exact g
      | none => rw [q] at g; dsimp only at g; split at g <;> cases g
inductive FPut : List (Str × AV) → Str → AV → List (Str × AV) → Prop
  | z {fs : List (Str × AV)} {n : Str} {o v : AV} : FPut ((n, o) :: fs) n v ((n, v) :: fs)
  | s {fs fs' : List (Str × AV)} {n : Str} {v : AV} {p : Str × AV} : FPut fs n v fs' → FPut (p :: fs) n v (p :: fs')
  | new {n : Str} {v : AV} : FPut [] n v [(n, v)]
theorem FPut.mem {fs fs' : List (Str × AV)} {n : Str} {v : AV} (p : FPut fs n v fs') : (n, v) ∈ fs' := by
  induction p with
  | z => exact .head _
  | s _ ih => exact .tail _ ih
  | new => exact .head _
theorem FsR.rows {K : KP} {x : LW} {fs : List (Str × AV)} : ∀ {es : List DictEntry}, FsR K x fs es → ∀ e ∈ es, e.refKey = false := by
  induction fs with
  | nil => intro es r e he; cases es with | nil => cases he | cons _ _ => exact r.elim
  | cons f fs ih =>
    intro es r e he
    cases es with
    | nil => cases he
    | cons e' es =>
      obtain ⟨⟨t, a⟩, _, c⟩ := r
      rcases List.mem_cons.mp he with q | he
      · rw [q]; unfold DictEntry.refKey
        rw [a]
      · exact ih c e he
theorem FsR.told {K : KP} {x : LW} {n : Str} {fs : List (Str × AV)} {es : List DictEntry} (r : FsR K x fs es) : (getL n es).isSome = true := by
  unfold getL
  split
  · rfl
  · have : es.any (·.refKey) = false := by
      rw [List.any_eq_false]
      intro e he
      rw [r.rows e he]; decide
    rw [this]; rfl
theorem FPut.rel {K : KP} {x : LW} {n : Str} {v : AV} {fs fs' : List (Str × AV)} (p : FPut fs n v fs') : ∀ {es : List DictEntry} {u : Value} {hs : Int} {t : Tok}, (fs'.map (·.1)).Nodup → FsR K x fs es → VR K x v u →
    FsR K x fs' (putL n hs (.str n t) u es) := by
  induction p with
  | z =>
    intro es u hs t nd r hv
    cases es with
    | nil => exact r.elim
    | cons e es =>
      obtain ⟨⟨t', a⟩, _, c⟩ := r
      unfold putL
      rw [a, isStr_eq, beq_self_eq_true, if_pos rfl]
      exact ⟨⟨t', rfl⟩, hv, c⟩
  | s p ih =>
    intro es u hs t nd r hv
    cases es with
    | nil => exact r.elim
    | cons e es =>
      obtain ⟨⟨t', a⟩, b, c⟩ := r
      rw [List.map_cons, List.nodup_cons] at nd
      rename_i q
      have ne : q.1 ≠ _ := fun z => nd.1 (by have := List.mem_map_of_mem (f := Prod.fst) p.mem; rw [z]; exact this)
      unfold putL
      rw [a, isStr_eq, beq_eq_false_iff_ne.mpr ne, if_neg (by decide)]
      exact ⟨⟨t', a⟩, b, ih nd.2 c hv⟩
  | new =>
    intro es u hs t nd r hv
    cases es with
    | nil => exact ⟨⟨t, rfl⟩, hv, trivial⟩
    | cons _ _ => exact r.elim
noncomputable def attrOk (K : Frag) (C : Addr) (n : Str) : Bool := plainGet K C n && hasDictIn K C && match findIn K (.ref C) n with
  | some a => noGet K a
  | none => false
noncomputable def storeOkK (K : Frag) (C : Addr) (n : Str) : Bool := (findIn K (.ref C) "__setattr__" == some (some (.builtin "object.__setattr__"))) && plainOver K C && (takerIn K C n == some none) && hasDictIn K C
section
variable {W : Wd} {b : Bool} {d : Nat} {sc : Scope} {fr : Fr2} {H H₁ H₂ H₃ : Hp} {v v' : AV} {e e' : PySem.Expr} {p : Pos}
theorem At.inst {c : Cx} {m : Str → Option Value} {h : Heap} {x : LW} (A : At W c m H h x) {k : Nat} {C : Addr} {fs : List (Str × AV)} {q : Addr × Addr} (hk : H[k]? = some (.inst C fs)) (hq : x.ad[k]? = some q) :
    ∃ es n, (q.1, instObj C q.2) ∈ x.led ∧ (q.2, dictOf es n) ∈ x.led ∧ FsR W.kp x fs es := A.ok.objs k _ q hk hq
theorem At.list {c : Cx} {m : Str → Option Value} {h : Heap} {x : LW} (A : At W c m H h x) {k : Nat} {l : List AV} {q : Addr × Addr} (hk : H[k]? = some (.list l)) (hq : x.ad[k]? = some q) :
    ∃ its n, (q.1, lstO its n) ∈ x.led ∧ VRs W.kp x l its := A.ok.objs k _ q hk hq
theorem Ev.attr {n : Str} {k : Nat} {C : Addr} {fs : List (Str × AV)} (he : Ev W b d sc e fr H (.obj k) H₁) (hk : H₁[k]? = some (.inst C fs)) (hm : (n, v) ∈ fs) (nd : (fs.map (·.1)).Nodup) (ok : attrOk W.K C n = true)
    (hp : v.plain = true) (hb : ∀ env whole, attributeBase e n env whole = whole) : Ev W b d sc (.Attribute e n p) fr H v H₁ := by
  intro c O s m x A F Q E h
  refine Attribute_any_ (he c O s m x A F _ _ fun u h' t' x' A' e' r' => ?_) (by rw [arm_eval_Attribute, hb])
  obtain ⟨_, hq, rfl⟩ := VR.o r'
  obtain ⟨es, nn, m1, m2, fr'⟩ := A'.inst hk hq
  obtain ⟨u, g, r⟩ := fr'.get nd hm
  simp only [attrOk, Bool.and_eq_true] at ok
  obtain ⟨⟨g1, g2⟩, g3⟩ := ok
  cases hf : findIn W.K (.ref C) n with
  | none => rw [hf] at g3; cases g3
  | some a =>
    rw [hf] at g3
    exact get_own A'.F O.X (InstAt.of_news A'.N m1 m2) g1 g2 hf g3 g (AV.handed r hp) (h _ _ _ x' A' e' r)
theorem Ev.titem {i : PySem.Expr} {l : List AV} {n : Int} (h1 : Ev W b d sc e fr H (.tup l) H₁) (h2 : Ev W b d sc i fr H₁ (.int n) H₂) (h0 : 0 ≤ n) (hn : n < 2 ^ 63) (hx : l[n.toNat]? = some v)
    (hs : ∀ a n t, subscripted i false (.ref a) (.int n t) = operate [.ref a, .int n t] (getItem (.ref a) (.int n t))) : Ev W b d sc (.Subscript e i p) fr H v H₂ := by
  intro c O s m x A F Q E h
  refine Subscript_ (h1 c O s m x A F _ _ fun u h' t' x' A' e' r' => ?_)
  refine h2 c O _ m x' A' (F.mono e') _ _ fun u2 h2' t2 x2 A2 e2 r2 => ?_
  obtain ⟨tk, rfl⟩ := VR.i r2
  have tail : ∀ {a : Addr} {its : List Value} {k : Nat}, h2'.get? a = some (tupO its k) → VRs W.kp x2 l its → u = .ref a →
      wpAny (model W.prog W.w) c.A (subscriptTail e i u (.int n tk)) Q E { s with heap := h2', toks := t2 } := by
    intro a its k hg hv hu
    subst hu
    obtain ⟨w', hw, rw'⟩ := hv.get hx
    have hl : n.toNat < its.length := (List.getElem?_eq_some_iff.mp hw).1
    refine item_tupleT (t := a) (l := its) (k := n) (u := tk) (j := n.toNat) ⟨_, hg, rfl, k, rfl⟩ (by omega) hn ?_ hw (h _ _ _ x2 A2 (e'.trans e2) rw') (hs _ _ _)
    have c1 : (decide (0 ≤ n) && decide (n < (its.length : Int))) = true := by
      rw [decide_eq_true h0, decide_eq_true (by omega)]; rfl
    have c2 : ¬ n < 0 := by omega
    unfold seqIndex?
    simp only [c2, if_false, c1, if_true]
  cases r' with
  | tup m1 m2 hv => exact tail (A2.N.get (e2.led _ m1 m2)) (hv.mono e2) rfl
  | ktup m1 hv => exact tail (A2.F.keep _ _ (O.X _ _ m1)) (hv.mono e2) rfl
theorem Ev.litem {i : PySem.Expr} {k : Nat} {l : List AV} {n : Int} (h1 : Ev W b d sc e fr H (.obj k) H₁) (h2 : Ev W b d sc i fr H₁ (.int n) H₂) (hk : H₂[k]? = some (.list l)) (h0 : 0 ≤ n) (hn : n < 2 ^ 63) (hx : l[n.toNat]? = some v)
    (hs : ∀ a n t, subscripted i false (.ref a) (.int n t) = operate [.ref a, .int n t] (getItem (.ref a) (.int n t))) : Ev W b d sc (.Subscript e i p) fr H v H₂ := by
  intro c O s m x A F Q E h
  refine Subscript_ (h1 c O s m x A F _ _ fun u h' t' x' A' e' r' => ?_)
  refine h2 c O _ m x' A' (F.mono e') _ _ fun u2 h2' t2 x2 A2 e2 r2 => ?_
  obtain ⟨tk, rfl⟩ := VR.i r2
  obtain ⟨_, hq, rfl⟩ := VR.o r'
  obtain ⟨its, nn, m1, hv⟩ := A2.list hk (e2.at hq)
  obtain ⟨w', hw, rw'⟩ := hv.get hx
  have hL : h2'.IsList _ its.toArray := ⟨_, A2.N.get m1, rfl, nn, rfl⟩
  exact tail_any (s := { s with heap := h2', toks := t2 }) hL.typeIs slot_list_getitem.lookup (wpAny_getItem_list hL h0 hn (by simpa using hw) (h _ _ _ x2 A2 (e'.trans e2) rw')) (hs _ _ _)
theorem Ev.fitem {i : PySem.Expr} {l : List AV} {n : Int} (h1 : Ev W b d sc e fr H (.fl l) H₁) (h2 : Ev W b d sc i fr H₁ (.int n) H₂) (h0 : 0 ≤ n) (hn : n < 2 ^ 63) (hx : l[n.toNat]? = some v)
    (hs : ∀ a n t, subscripted i false (.ref a) (.int n t) = operate [.ref a, .int n t] (getItem (.ref a) (.int n t))) : Ev W b d sc (.Subscript e i p) fr H v H₂ := by
  intro c O s m x A F Q E h
  refine Subscript_ (h1 c O s m x A F _ _ fun u h' t' x' A' e' r' => ?_)
  refine h2 c O _ m x' A' (F.mono e') _ _ fun u2 h2' t2 x2 A2 e2 r2 => ?_
  obtain ⟨tk, rfl⟩ := VR.i r2
  obtain ⟨_, _, _, m1, m2, hv0, rfl⟩ := VR.f r'
  have hv := hv0.mono e2
  obtain ⟨w', hw, rw'⟩ := hv.get hx
  have hL : h2'.IsList _ _ := ⟨_, A2.N.get (e2.led _ m1 m2), rfl, _, rfl⟩
  exact tail_any (s := { s with heap := h2', toks := t2 }) hL.typeIs slot_list_getitem.lookup (wpAny_getItem_list hL h0 hn (by simpa using hw) (h _ _ _ x2 A2 (e'.trans e2) rw')) (hs _ _ _)
theorem Ev.add {l r : PySem.Expr} {i j : Int} (h1 : Ev W b d sc l fr H (.int i) H₁) (h2 : Ev W b d sc r fr H₁ (.int j) H₂) : Ev W b d sc (.BinOp l .Add r p) fr H (.int (i + j)) H₂ := by
  intro c O s m x A F Q E h
  refine wpAny_BinOp (h1 c O s m x A F _ _ fun u h' t' x' A' e' r' => ?_)
  refine h2 c O _ m x' A' (F.mono e') _ _ fun u2 h2' t2 x2 A2 e2 r2 => ?_
  cases r'; cases r2
  exact add_int (h _ _ _ x2 A2 (e'.trans e2) (.int _ _))
theorem Ev.sub {l r : PySem.Expr} {i j : Int} (h1 : Ev W b d sc l fr H (.int i) H₁) (h2 : Ev W b d sc r fr H₁ (.int j) H₂) : Ev W b d sc (.BinOp l .Sub r p) fr H (.int (i - j)) H₂ := by
  intro c O s m x A F Q E h
  refine wpAny_BinOp (h1 c O s m x A F _ _ fun u h' t' x' A' e' r' => ?_)
  refine h2 c O _ m x' A' (F.mono e') _ _ fun u2 h2' t2 x2 A2 e2 r2 => ?_
  cases r'; cases r2
  exact sub_int (h _ _ _ x2 A2 (e'.trans e2) (.int _ _))
theorem Ev.mod {l r : PySem.Expr} {i j : Int} (h1 : Ev W b d sc l fr H (.int i) H₁) (h2 : Ev W b d sc r fr H₁ (.int j) H₂) (hj : j ≠ 0) : Ev W b d sc (.BinOp l .Mod r p) fr H (.int (i.fmod j)) H₂ := by
  intro c O s m x A F Q E h
  refine wpAny_BinOp (h1 c O s m x A F _ _ fun u h' t' x' A' e' r' => ?_)
  refine h2 c O _ m x' A' (F.mono e') _ _ fun u2 h2' t2 x2 A2 e2 r2 => ?_
  cases r'; cases r2
  exact mod_int hj (h _ _ _ x2 A2 (e'.trans e2) (.int _ _))
theorem Ev.neg {l : PySem.Expr} {i : Int} (h1 : Ev W b d sc l fr H (.int i) H₁) : Ev W b d sc (.UnaryOp .USub l p) fr H (.int (-i)) H₁ := by
  intro c O s m x A F Q E h
  refine wpAny_UnaryOp (h1 c O s m x A F _ _ fun u h' t' x' A' e' r' => ?_)
  first | obtain rfl := VR.v r' | obtain ⟨_, rfl⟩ := VR.i r' | obtain rfl := VR.t r' | obtain rfl := VR.n r' | obtain ⟨_, rfl⟩ := VR.s r' | cases r'
  exact neg_int (h _ _ _ x' A' e' (.int _ _))
noncomputable def CmpR (W : Wd) (op : CmpOp) (v v' : AV) (r : Bool) : Prop := ∀ (c : Cx) (s : Shared) (m : Str → Option Value) (H : Hp) (x : LW) (u u' : Value) (Q : Value → Shared → Prop) (E : Value → Shared → Prop), W.K.In c.h₀ → c.A.units + 20 < 9900 → At W c m H s.heap x → VR W.kp x v u → VR W.kp x v' u' → (∀ t, Q (.bool r) { s with toks := t }) →
  wpAny (model W.prog W.w) c.A (compareOp op u u') Q E s
theorem CmpR.lt {i j : Int} : CmpR W .Lt (.int i) (.int j) (decide (i < j)) := by
  intro c s m H x u u' Q E X hu A r r' h
  cases r; cases r'
  exact lt_int (h s.toks)
theorem CmpR.le {i j : Int} : CmpR W .LtE (.int i) (.int j) (decide (i ≤ j)) := by
  intro c s m H x u u' Q E X hu A r r' h
  cases r; cases r'
  exact le_int (h s.toks)
theorem CmpR.gt {i j : Int} : CmpR W .Gt (.int i) (.int j) (decide (j < i)) := by
  intro c s m H x u u' Q E X hu A r r' h
  cases r; cases r'
  exact gt_int (h s.toks)
theorem CmpR.ge {i j : Int} : CmpR W .GtE (.int i) (.int j) (decide (j ≤ i)) := by
  intro c s m H x u u' Q E X hu A r r' h
  cases r; cases r'
  exact ge_int (h s.toks)
theorem CmpR.eqI {i j : Int} : CmpR W .Eq (.int i) (.int j) (decide (i = j)) := by
  intro c s m H x u u' Q E X hu A r r' h
  cases r; cases r'
  exact eq_int (by have : (i == j) = decide (i = j) := rfl; rw [this]; exact h s.toks)
theorem CmpR.neI {i j : Int} : CmpR W .NotEq (.int i) (.int j) (!decide (i = j)) := by
  intro c s m H x u u' Q E X hu A r r' h
  cases r; cases r'
  exact ne_int (by have : (i != j) = !decide (i = j) := rfl; rw [this]; exact h s.toks)
theorem Ev.cmp {l r : PySem.Expr} {op : CmpOp} {t : Bool} (h1 : Ev W b (d + 1) sc l fr H v H₁) (h2 : Ev W b (d + 1) sc r fr H₁ v' H₂) (hc : CmpR W op v v' t) (hm : behindInMarks op r = false) : Ev W b (d + 1) sc (.Compare l [op] [r] p) fr H (.bool t) H₂ := by
  intro c O s m x A F Q E h
  refine wpAny_Compare1 (h1 c O s m x A F _ _ fun u h' t' x' A' e' r' => ?_) hm
  refine h2 c O _ m x' A' (F.mono e') _ _ fun u2 h2' t2 x2 A2 e2 r2 => ?_
  exact hc c _ m H₂ x2 u u2 Q E O.X (by have := O.un; omega) A2 (r'.mono e2) r2 fun t => h _ _ t x2 A2 (e'.trans e2) (.bool _)
theorem Ts.cmp {l r : PySem.Expr} {op : CmpOp} {t : Bool} (h1 : Ev W b (d + 1) sc l fr H v H₁) (h2 : Ev W b (d + 1) sc r fr H₁ v' H₂) (hc : CmpR W op v v' t) (hm : behindInMarks op r = false) : Ts W b (d + 1) sc (.Compare l [op] [r] p) fr H t H₂ := by
  intro c O s m x A F Q E h
  refine wpAny_isTrue_Compare1 (h1 c O s m x A F _ _ fun u h' t' x' A' e' r' => ?_) hm
  refine h2 c O _ m x' A' (F.mono e') _ _ fun u2 h2' t2 x2 A2 e2 r2 => ?_
  exact hc c _ m H₂ x2 u u2 _ E O.X (by have := O.un; omega) A2 (r'.mono e2) r2 fun t => wpAny_truthy_bool (h _ t x2 A2 (e'.trans e2))
theorem Ts.not {l : PySem.Expr} {t : Bool} (h1 : Ts W b d sc l fr H t H₁) : Ts W b d sc (.UnaryOp .Not l p) fr H (!t) H₁ := by
  intro c O s m x A F Q E h
  exact wpAny_isTrue_Not (h1 c O s m x A F _ _ fun h' t' x' A' e' => h h' t' x' A' e')
theorem Ts.val {t : Bool} (h1 : Ev W b d sc e fr H (.bool t) H₁) (he : ∀ env whole, isTrue e env whole = (do let v ← whole; standAt e.pos; holding [v] (truthy v))) : Ts W b d sc e fr H t H₁ := by
  intro c O s m x A F Q E h
  refine wpAny_isTrue_value (h1 c O s m x A F _ _ fun u h' t' x' A' e' r' => ?_) (he _ _)
  first | obtain rfl := VR.v r' | obtain ⟨_, rfl⟩ := VR.i r' | obtain rfl := VR.t r' | obtain rfl := VR.n r' | obtain ⟨_, rfl⟩ := VR.s r' | cases r'
  exact wpAny_truthy_bool (h _ _ x' A' e')
theorem Ts.orT {l : PySem.Expr} {r : List PySem.Expr} (h1 : Ts W b d sc l fr H true H₁) : Ts W b d sc (.BoolOp .Or (l :: r) p) fr H true H₁ := by
  intro c O s m x A F Q E h
  refine wpAny_isTrue_BoolOp ?_
  show wpAny _ _ (do match BoolOp.Or, ← isTrue l _ (eval l _) with | .And, false => pure false | .Or, true => pure true | _, _ => allTrue .Or r _) Q E s
  refine wpAny_bind (h1 c O s m x A F _ _ fun h' t' x' A' e' => ?_)
  exact wpAny_pure (h _ _ x' A' e')
theorem Ts.orF {l r : PySem.Expr} {t : Bool} (h1 : Ts W b d sc l fr H false H₁) (h2 : Ts W b d sc r fr H₁ t H₂) : Ts W b d sc (.BoolOp .Or [l, r] p) fr H t H₂ := by
  intro c O s m x A F Q E h
  refine wpAny_isTrue_BoolOp ?_
  show wpAny _ _ (do match BoolOp.Or, ← isTrue l _ (eval l _) with | .And, false => pure false | .Or, true => pure true | _, _ => allTrue .Or [r] _) Q E s
  refine wpAny_bind (h1 c O s m x A F _ _ fun h' t' x' A' e' => ?_)
  show wpAny _ _ (do match BoolOp.Or, ← isTrue r _ (eval r _) with | .And, false => pure false | .Or, true => pure true | _, _ => allTrue .Or [] _) Q E _
  refine wpAny_bind (h2 c O _ m x' A' (F.mono e') _ _ fun h2' t2 x2 A2 e2 => ?_)
  cases t
  · exact wpAny_pure (h _ _ x2 A2 (e'.trans e2))
  · exact wpAny_pure (h _ _ x2 A2 (e'.trans e2))
theorem Ev.ifT {a c' : PySem.Expr} (h1 : Ts W b d sc e fr H true H₁) (h2 : Ev W b d sc a fr H₁ v H₂) : Ev W b d sc (.IfExp e a c' p) fr H v H₂ := by
  intro c O s m x A F Q E h
  refine wpAny_IfExp (h1 c O s m x A F _ _ fun h' t' x' A' e' => ?_)
  rw [if_pos rfl]
  exact h2 c O _ m x' A' (F.mono e') _ _ fun u h2' t2 x2 A2 e2 r2 => h _ _ _ x2 A2 (e'.trans e2) r2
theorem Ev.ifF {a c' : PySem.Expr} (h1 : Ts W b d sc e fr H false H₁) (h2 : Ev W b d sc c' fr H₁ v H₂) : Ev W b d sc (.IfExp e a c' p) fr H v H₂ := by
  intro c O s m x A F Q E h
  refine wpAny_IfExp (h1 c O s m x A F _ _ fun h' t' x' A' e' => ?_)
  rw [if_neg (by decide)]
  exact h2 c O _ m x' A' (F.mono e') _ _ fun u h2' t2 x2 A2 e2 r2 => h _ _ _ x2 A2 (e'.trans e2) r2
theorem Evs.nil : Evs W b d sc [] fr H [] H := by
  intro c O s m x A F pos Q E h
  exact Calls.spliced_nil (h [] s.heap s.toks x A (Ext.refl x) .nil)
theorem Evs.cons {es : List PySem.Expr} {vs : List AV} (h1 : Ev W b d sc e fr H v H₁) (h2 : Evs W b d sc es fr H₁ vs H₂) (hst : ∀ env, starEach (e :: es) env = (false, eval e env) :: starEach es env) : Evs W b d sc (e :: es) fr H (v :: vs) H₂ := by
  intro c O s m x A F pos Q E h
  refine spliced_more (h1 c O s m x A F _ _ fun u h' t' x' A' e' r' => ?_) (hst _)
  exact h2 c O _ m x' A' (F.mono e') _ _ _ fun us h2' t2 x2 A2 e2 r2 => h _ _ _ x2 A2 (e'.trans e2) (.cons (r'.mono e2) r2)
end
end
section
open PySem PySem.W PyProof.Rows PySem.Calls PySem.Spec
theorem setItem_ex {prog : Program} {w : World} {A : Around} {E : Value → Shared → Prop} {s : Shared} {l : Addr} {its : List Value} {ne : Nat} {k : Int} {t : Tok} {v : Value} {Q : Unit → Shared → Prop} (ho : s.heap.get? l = some (lstO its ne))
    (h0 : 0 ≤ k) (hfit : k < 2 ^ 63) (hn : k < its.length) (hQ : Q () { s with heap := s.heap.update l (Obj.mapSeq (·.setIfInBounds k.toNat v)) }) :
    wpAny (model prog w) A (setItem (.ref l) (.int k t) v) Q E s := by
  have hl : s.heap.IsList l its.toArray := ⟨_, ho, rfl, ne, rfl⟩
  unfold setItem
  try with_reducible refine wpAny_holding ?_
  first | refine wpAny_bind (wpAny_pure ?_) | skip
  refine wpAny_bind (wpAny_sequenceKey hl.typeIs (by decide) ?_)
  refine wpAny_bind (wpAny_callSpecial?_slot (name := Str.ofString "__setitem__") hl.typeIs slot_list_setitem
    (wpAny_call_entry slot_list_setitem hl.typeIs entry_list_setitem ?_ (args_list_setitem _ _ _)))
  show wpAny _ _ (Builtin.List.listSubscript? (.int k t) >>= _) _ _ s
  refine wpAny_bind (wpAny_listSubscript_int (fitsIndex_of h0 hfit) ?_)
  clear hfit
  obtain ⟨j, rfl⟩ := Int.eq_ofNat_of_zero_le h0
  have hj : j < its.toArray.size := by rw [List.size_toArray]; omega
  have hx' : its.toArray[j]? = some its.toArray[j] := Array.getElem?_eq_getElem hj
  show wpAny _ _ ((seqItemAt l j >>= fun r => pure (r.map (j, ·))) >>= _) _ _ s
  refine wpAny_bind (wpAny_bind (wpAny_seqItemAt ho rfl (wpAny_pure ?_)))
  rw [hx']
  show wpAny _ _ (setSeqItemAt l j v >>= _) _ _ s
  refine wpAny_bind (wpAny_setSeqItemAt ho rfl ?_)
  first
    | exact wpAny_bind (wpAny_pure (wpAny_pure ⟨.none, rfl, wpAny_pure hQ⟩))
    | exact wpAny_pure ⟨.none, rfl, wpAny_pure hQ⟩
theorem mapSeq_set {its : List Value} {n k : Nat} {v : Value} : Obj.mapSeq (·.setIfInBounds k v) (lstO its n) = lstO (its.set k v) n := by
  show (Obj.mk _ _ (.seq (its.toArray.setIfInBounds k v) (if (its.toArray.setIfInBounds k v).size == its.toArray.size then n else n + 1)) _) = _
  rw [Array.size_setIfInBounds]
  simp [lstO]
section
variable {W : Wd} {b : Bool} {d : Nat} {sc : Scope} {fr fr' : Fr2} {H H₁ H₂ H₃ : Hp} {v v' : AV} {e e' : PySem.Expr} {p : Pos} {c : Cx} {m : Str → Option Value} {h : Heap} {x : LW}
theorem ownAll_keys {K : KP} {x : LW} : ∀ {H : Hp} {ad : List (Addr × Addr)}, (∀ (k : Nat) (O : MO) (p : Addr × Addr), H[k]? = some O → ad[k]? = some p → ORel K x p O) → ∀ a ∈ ownAll H ad, a ∈ x.led.map (·.1)
  | [], _, _, a, h => by simp [ownAll] at h
  | _ :: _, [], _, a, h => by simp [ownAll] at h
  | O :: H, p :: ad, ob, a, h => by
    rcases List.mem_append.mp h with h | h
    · have o := ob 0 O p rfl rfl
      cases O with
      | list l =>
        obtain ⟨its, n, m1, _⟩ := o
        cases h with
        | head => exact List.mem_map_of_mem (f := Prod.fst) m1
        | tail _ h => cases h
      | inst C fs =>
        obtain ⟨es, n, m1, m2, _⟩ := o
        cases h with
        | head => exact List.mem_map_of_mem (f := Prod.fst) m1
        | tail _ h => cases h with
          | head => exact List.mem_map_of_mem (f := Prod.fst) m2
          | tail _ h => cases h
      | idict l =>
        obtain ⟨o, us, _, m1, _⟩ := o
        cases h with
        | head => exact List.mem_map_of_mem (f := Prod.fst) m1
        | tail _ h => cases h
      | sdict l =>
        obtain ⟨o, us, _, m1, _⟩ := o
        cases h with
        | head => exact List.mem_map_of_mem (f := Prod.fst) m1
        | tail _ h => cases h
      | ns l =>
        obtain ⟨o, m, m1, _⟩ := o
        cases h with
        | head => exact List.mem_map_of_mem (f := Prod.fst) m1
        | tail _ h => cases h
    · exact ownAll_keys (fun k O' p' h1 h2 => ob (k + 1) O' p' h1 h2) a h
theorem LwOk.ownKeys {K : KP} (w : LwOk K H x) {a : Addr} (h : a ∈ x.own) : a ∈ x.led.map (·.1) := ownAll_keys w.objs a (w.own ▸ h)
theorem At.put {k : Nat} {O O' : MO} {q : Addr × Addr} {a : Addr} {o o' : Obj} {f : Obj → Obj} (A : At W c m H h x) (hk : H[k]? = some O) (hq : x.ad[k]? = some q) (hd : a ∈ ownOf q O) (hm : (a, o) ∈ x.led) (e : f o = o') (hf : o'.isFreed = false) (hs : sameKind O O')
    (hO : ORel W.kp (x.put a o') q O') : At W c m (H.set k O') (h.update a f) (x.put a o') := by
  obtain ⟨pre, post, e1, e2, h1, h2⟩ := (upd_setAt (o' := o') A.ok.keys hm).split
  have N := A.N
  rw [e1] at N
  obtain ⟨F', N'⟩ := news_upd A.F N h1 h2 e hf
  exact ⟨F', by show News _ _ _ (setAt x.led a o'); rw [e2]; exact N', A.ok.put hk hq hd hs hO⟩
theorem At.put' {k : Nat} {O O' : MO} {q : Addr × Addr} {a : Addr} {o' : Obj} {h' : Heap} (A : At W c m H h x) (F' : Fr c.h₀ c.L h' m) (N' : News c.h₀ c.L h' (setAt x.led a o')) (hk : H[k]? = some O) (hq : x.ad[k]? = some q) (hd : a ∈ ownOf q O) (hs : sameKind O O')
    (hO : ORel W.kp (x.put a o') q O') : At W c m (H.set k O') h' (x.put a o') := ⟨F', N', A.ok.put hk hq hd hs hO⟩
theorem At.owned {k : Nat} {O : MO} {q : Addr × Addr} {a : Addr} (A : At W c m H h x) (hk : H[k]? = some O) (hq : x.ad[k]? = some q) (hd : a ∈ ownOf q O) : a ∈ x.own := A.ok.own ▸ ownAll_mem hk hq hd
noncomputable def LW.more (x : LW) (a : Addr) (o : Obj) : LW := { x with led := (a, o) :: x.led }
theorem fresh_key (A : At W c m H h x) : h.objs.size ∉ x.led.map (·.1) := fun q => by
  obtain ⟨p, hp, e⟩ := List.mem_map.mp q
  have := Heap.lt_size (A.N p hp).1
  rw [e] at this
  exact Nat.lt_irrefl _ this
theorem LW.more_ext {a : Addr} {o : Obj} (h : a ∉ x.led.map (·.1)) : Ext x (x.more a o) := ⟨List.prefix_refl _, fun _ hp _ => .tail _ hp, fun _ h => .inl h, fun _ h => .tail _ h⟩
theorem At.more {o : Obj} (A : At W c m H h x) (hf : o.isFreed = false) : At W c m H (h.push o) (x.more h.objs.size o) := by
  have fk := fresh_key A
  refine ⟨A.F.push _, A.N.push A.F o hf, ?_, A.ok.own, A.ok.nd, A.ok.len, fun k O p hk hp => (A.ok.objs k O p hk hp).mono (LW.more_ext fk) fun _ _ _ hm => .tail _ hm⟩
  show ((_ :: x.led).map (·.1)).Nodup
  rw [List.map_cons, List.nodup_cons]
  exact ⟨fk, A.ok.keys⟩
theorem LW.more_off {a : Addr} {o : Obj} (w : LwOk W.kp H x) (h : a ∉ x.led.map (·.1)) : a ∉ (x.more a o).own := fun q => h (w.ownKeys q)
theorem ownAll_app : ∀ {H : Hp} {ad : List (Addr × Addr)} {O : MO} {p : Addr × Addr}, ad.length = H.length → ownAll (H ++ [O]) (ad ++ [p]) = ownAll H ad ++ ownOf p O
  | [], [], O, p, _ => by simp [ownAll]
  | [], _ :: _, _, _, h => by simp at h
  | _ :: _, [], _, _, h => by simp at h
  | X :: H, q :: ad, O, p, h => by
    show ownOf q X ++ ownAll (H ++ [O]) (ad ++ [p]) = ownOf q X ++ ownAll H ad ++ ownOf p O
    rw [ownAll_app (Nat.succ.inj h), List.append_assoc]
noncomputable def LW.moreL (x : LW) (a : Addr) (o : Obj) : LW := { led := (a, o) :: x.led, ad := x.ad ++ [(a, a)], own := x.own ++ [a] }
theorem LW.moreL_ext {a : Addr} {o : Obj} (h : a ∉ x.led.map (·.1)) : Ext x (x.moreL a o) :=
  ⟨List.prefix_append _ _, fun _ hp _ => .tail _ hp, fun b hb => (List.mem_append.mp hb).elim .inl fun q => .inr (by rw [List.mem_singleton.mp q]; exact h), fun _ h => .tail _ h⟩
theorem At.moreL {l : List AV} {its : List Value} (A : At W c m H h x) (r : VRs W.kp x l its) : At W c m (H ++ [.list l]) (h.push (lstO its 0)) (x.moreL h.objs.size (lstO its 0)) := by
  have fk := fresh_key A
  have ex := LW.moreL_ext (x := x) (o := lstO its 0) fk
  refine ⟨A.F.push _, A.N.push A.F _ rfl, ?_, ?_, ?_, ?_, fun k O p hk hp => ?_⟩
  · show ((_ :: x.led).map (·.1)).Nodup
    rw [List.map_cons, List.nodup_cons]
    exact ⟨fk, A.ok.keys⟩
  · show x.own ++ [_] = ownAll (H ++ [.list l]) (x.ad ++ [_])
    rw [ownAll_app A.ok.len, A.ok.own]; rfl
  · show (x.own ++ [_]).Nodup
    refine List.nodup_append.mpr ⟨A.ok.nd, (by simp), fun a ha b hb e => ?_⟩
    rw [List.mem_singleton.mp hb] at e
    exact fk (e ▸ A.ok.ownKeys ha)
  · show (x.ad ++ [_]).length = (H ++ [_]).length
    rw [List.length_append, List.length_append, A.ok.len]; rfl
  · have hp : (x.ad ++ [(h.objs.size, h.objs.size)])[k]? = some p := hp
    by_cases hl : k < H.length
    · rw [List.getElem?_append_left hl] at hk
      rw [List.getElem?_append_left (A.ok.len ▸ hl)] at hp
      exact (A.ok.objs k O p hk hp).mono ex fun _ _ _ hm => .tail _ hm
    · rw [List.getElem?_append_right (Nat.le_of_not_lt hl)] at hk
      rw [List.getElem?_append_right (by rw [A.ok.len]; exact Nat.le_of_not_lt hl), A.ok.len] at hp
      cases hz : k - H.length with
      | zero =>
        rw [hz] at hk hp
        cases hk; cases hp
        exact ⟨its, 0, .head _, r.mono ex⟩
      | succ j => rw [hz] at hk; simp at hk
theorem Ev.tuple {es : List PySem.Expr} {l : List AV} {k : Nat} (h1 : Evs W b d sc es fr H l H₁) (hl : l.length ≤ 1000) : Ev W b d sc (.Tuple es k p) fr H (.tup l) H₁ := by
  intro c O s m x A F Q E h
  refine Tuple_ (h1 c O s m x A F _ _ _ fun us h' t' x' A' e' r' => ?_)
  have fk := fresh_key A'
  refine PySem.wpAny_newTuple (h _ _ _ _ (A'.more (o := tupO us 0) rfl) (e'.trans (LW.more_ext fk)) (.tup (.head _) (LW.more_off A'.ok fk) (r'.mono (LW.more_ext fk)))) ?_
  have := r'.length
  show us.length ≤ 2 ^ 24
  omega
theorem Ev.flist {es : List PySem.Expr} {l : List AV} (h1 : Evs W b d sc es fr H l H₁) (hl : l.length ≤ 1000) : Ev W b d sc (.List es p) fr H (.fl l) H₁ := by
  intro c O s m x A F Q E h
  refine List_ (h1 c O s m x A F _ _ _ fun us h' t' x' A' e' r' => ?_)
  have fk := fresh_key A'
  refine PySem.wpAny_newList (h _ _ _ _ (A'.more (o := lstO us 0) rfl) (e'.trans (LW.more_ext fk)) (.fl (.head _) (LW.more_off A'.ok fk) (r'.mono (LW.more_ext fk)))) ?_
  have := r'.length
  show us.length ≤ 2 ^ 24
  omega
theorem Ev.listNew {es : List PySem.Expr} {l : List AV} (h1 : Evs W b d sc es fr H l H₁) (hl : l.length ≤ 1000) : Ev W b d sc (.List es p) fr H (.obj H₁.length) (H₁ ++ [.list l]) := by
  intro c O s m x A F Q E h
  refine List_ (h1 c O s m x A F _ _ _ fun us h' t' x' A' e' r' => ?_)
  have fk := fresh_key A'
  refine PySem.wpAny_newList (h _ _ _ _ (A'.moreL r') (e'.trans (LW.moreL_ext fk)) ?_) ?_
  · have := VR.obj (K := W.kp) (x := x'.moreL h'.objs.size (lstO us 0)) (k := H₁.length) (p := (h'.objs.size, h'.objs.size)) (by
      show (x'.ad ++ [_])[H₁.length]? = _
      rw [List.getElem?_append_right (by rw [A'.ok.len]; exact Nat.le_refl _), A'.ok.len, Nat.sub_self]; rfl)
    exact this
  · have := r'.length
    show us.length ≤ 2 ^ 24
    omega
theorem looks_machine {M : Model} {h : Heap} {n : String} : Looks M h (keeperOf (.builtin n)) .machine := Looks.of_pure rfl
theorem Ev.len {f : Str} {np : Pos} {k : Nat} {l : List AV} (h0 : Ev W b d sc (.Name f np) fr H (.val (.builtin "len")) H) (h1 : Ev W b d sc e fr H (.obj k) H₁) (hk : H₁[k]? = some (.list l)) (hl : l.length < 2 ^ 63) (hst : ∀ env, starEach [e] env = [(false, eval e env)]) :
    Ev W b d sc (.Call (.Name f np) [e] [] p) fr H (.int l.length) H₁ := by
  intro c O s m x A F Q E h
  refine wpAny_Call_ofName (h0 c O s m x A F _ _ fun u h' t' x' A' e' r' => ?_)
  first | obtain rfl := VR.v r' | obtain ⟨_, rfl⟩ := VR.i r' | obtain rfl := VR.t r' | obtain rfl := VR.n r' | obtain ⟨_, rfl⟩ := VR.s r' | cases r'
  refine callWith_of (P := fun _ => True) (by rw [hst]; rfl) (fun _ _ => ⟨_, .inr (.inl rfl), looks_machine⟩) ?_
  rw [hst]
  refine evalArgs_plain (Calls.spliced_cons ?_)
  refine h1 c O _ m x' A' (F.mono e') _ _ fun u2 h2' t2 x2 A2 e2 r2 => ?_
  refine Calls.spliced_nil ⟨trivial, ?_⟩
  obtain ⟨_, hq, rfl⟩ := VR.o r2
  obtain ⟨its, nn, m1, hv⟩ := A2.list hk hq
  have hln := hv.length
  refine len_list (s := { s with heap := h2', toks := t2 }) (items := its.toArray) ⟨_, A2.N.get m1, rfl, nn, rfl⟩ (by rw [List.size_toArray]; omega) ?_
  rw [List.size_toArray, ← hln]
  exact h _ _ _ x2 A2 (e'.trans e2) (.int _ _)
theorem Ev.callFn {f : Str} {np : Pos} {fa : Addr} {es : List PySem.Expr} {vs : List AV} (h0 : Ev W b (d + 1) sc (.Name f np) fr H (.val (.ref fa)) H) (h1 : Evs W b (d + 1) sc (e :: es) fr H vs H₁) (hk : keepIn W.K (.ref fa) = true)
    (hst : ∀ env, starEach (e :: es) env = (false, eval e env) :: starEach es env) (hp : ∀ pos env, (backTo pos (starEach es env)).any (·.1) = false) (h2 : Cl W b (d + 1) fa vs H₁ v H₂) : Ev W b (d + 1) sc (.Call (.Name f np) (e :: es) [] p) fr H v H₂ := by
  intro c O s m x A F Q E h
  refine wpAny_Call_ofName (h0 c O s m x A F _ _ fun u h' t' x' A' e' r' => ?_)
  first | obtain rfl := VR.v r' | obtain ⟨_, rfl⟩ := VR.i r' | obtain rfl := VR.t r' | obtain rfl := VR.n r' | obtain ⟨_, rfl⟩ := VR.s r' | cases r'
  refine callWith_K (K := W.K) (h₀ := c.h₀) O.X hk ?_ (hst _) (hp _ _)
  refine h1 c O _ m x' A' (F.mono e') _ _ _ fun us h2' t2 x2 A2 e2 r2 => ⟨O.X.keeps A2.F.keep, ?_⟩
  refine wpAny_call ?_
  exact h2 sc c O _ m x2 A2 us r2 _ fun u h3 t3 x3 A3 e3 r3 => h _ _ _ x3 A3 ((e'.trans e2).trans e3) r3
noncomputable def methOk (K : Frag) (C : Addr) (n : Str) (f : Addr) : Bool := plainGet K C n && (findIn K (.ref C) n == some (some (.ref f))) && isFn K (.ref f) && keepIn K (.ref f)
theorem FsR.miss {K : KP} {x : LW} {n : Str} : ∀ {fs : List (Str × AV)} {es : List DictEntry}, FsR K x fs es → n ∉ fs.map (·.1) → getL n es = some none := by
  intro fs es r hn
  have key : ∀ {fs : List (Str × AV)} {es : List DictEntry}, FsR K x fs es → n ∉ fs.map (·.1) → es.find? (·.key.isStr n) = none := by
    intro fs
    induction fs with
    | nil => intro es r _; cases es with | nil => rfl | cons _ _ => exact r.elim
    | cons f fs ih =>
      intro es r hn
      cases es with
      | nil => rfl
      | cons e es =>
        obtain ⟨⟨t, a⟩, _, c⟩ := r
        rw [List.map_cons, List.mem_cons, not_or] at hn
        rw [List.find?_cons, a, isStr_eq, beq_eq_false_iff_ne.mpr (Ne.symm hn.1)]
        exact ih c hn.2
  unfold getL
  rw [key r hn]
  have : es.any (·.refKey) = false := by
    rw [List.any_eq_false]
    intro e he
    rw [r.rows e he]; decide
  rw [this]; rfl
theorem Ev.callMeth {n : Str} {ap : Pos} {fa : Addr} {k : Nat} {C : Addr} {fs : List (Str × AV)} {es : List PySem.Expr} {vs : List AV} {o : PySem.Expr} (h0 : Ev W b (d + 1) sc o fr H (.obj k) H₁) (hk : H₁[k]? = some (.inst C fs)) (hn : n ∉ fs.map (·.1))
    (ok : methOk W.K C n fa = true) (h1 : Evs W b (d + 1) sc (e :: es) fr H₁ vs H₂) (hst : ∀ env, starEach (e :: es) env = (false, eval e env) :: starEach es env) (hp : ∀ pos env, (backTo pos (starEach es env)).any (·.1) = false)
    (hc : ∀ env, ∃ pl, eval (.Call (.Attribute o n ap) (e :: es) [] p) env = (do
      let ov ← eval o env
      standAt ap.atName
      let (f, first) ← holding [ov] (getMethod ov n pl)
      callWith p f first (backTo p (starEach (e :: es) env)) (backToKw p (keywordEach [] env))))
    (h2 : Cl W b (d + 1) fa (.obj k :: vs) H₂ v H₃) : Ev W b (d + 1) sc (.Call (.Attribute o n ap) (e :: es) [] p) fr H v H₃ := by
  intro c O s m x A F Q E h
  simp only [methOk, Bool.and_eq_true, beq_iff_eq] at ok
  obtain ⟨⟨⟨o1, o2⟩, o3⟩, o4⟩ := ok
  obtain ⟨pl, hev⟩ := hc (c.env sc)
  refine methodCall_KW (pl := pl) (h0 c O s m x A F _ _ fun u h' t' x' A' e' r' => ?_) hev
  obtain ⟨_, hq, rfl⟩ := VR.o r'
  rename_i q
  obtain ⟨es', nn, m1, m2, fr'⟩ := A'.inst hk hq
  refine method_inst (s := { s with heap := h', toks := t' }) A'.F O.X (InstAt.of_news A'.N m1 m2) o1 o2 o3 (fr'.miss hn) ?_
  refine callWith_K (K := W.K) (h₀ := c.h₀) O.X o4 ?_ (hst _) (hp _ _)
  refine h1 c O _ m x' A' (F.mono e') _ _ _ fun us h2' t2 x2 A2 e2 r2 => ⟨O.X.keeps A2.F.keep, ?_⟩
  refine wpAny_call ?_
  exact h2 sc c O _ m x2 A2 (.ref q.1 :: us) (.cons (.obj (e2.at hq)) r2) _ fun u h3 t3 x3 A3 e3 r3 => h _ _ _ x3 A3 ((e'.trans e2).trans e3) r3
theorem Ev.callMeth0 {n : Str} {ap : Pos} {fa : Addr} {k : Nat} {C : Addr} {fs : List (Str × AV)} {o : PySem.Expr} (h0 : Ev W b (d + 1) sc o fr H (.obj k) H₁) (hk : H₁[k]? = some (.inst C fs)) (hn : n ∉ fs.map (·.1))
    (ok : methOk W.K C n fa = true)
    (hc : ∀ env, ∃ pl, eval (.Call (.Attribute o n ap) [] [] p) env = (do
      let ov ← eval o env
      standAt ap.atName
      let (f, first) ← holding [ov] (getMethod ov n pl)
      callWith p f first (backTo p (starEach [] env)) (backToKw p (keywordEach [] env))))
    (h2 : Cl W b (d + 1) fa [.obj k] H₁ v H₃) : Ev W b (d + 1) sc (.Call (.Attribute o n ap) [] [] p) fr H v H₃ := by
  intro c O s m x A F Q E h
  simp only [methOk, Bool.and_eq_true, beq_iff_eq] at ok
  obtain ⟨⟨⟨o1, o2⟩, o3⟩, o4⟩ := ok
  obtain ⟨pl, hev⟩ := hc (c.env sc)
  refine methodCall_KW (pl := pl) (h0 c O s m x A F _ _ fun u h' t' x' A' e' r' => ?_) hev
  obtain ⟨_, hq, rfl⟩ := VR.o r'
  rename_i q
  obtain ⟨es', nn, m1, m2, fr'⟩ := A'.inst hk hq
  refine method_inst (s := { s with heap := h', toks := t' }) A'.F O.X (InstAt.of_news A'.N m1 m2) o1 o2 o3 (fr'.miss hn) ?_
  refine callWith_K0 (K := W.K) (O.X.keeps A'.F.keep) o4 ?_
  refine wpAny_call ?_
  exact h2 sc c O _ m x' A' [.ref q.1] (.cons (.obj hq) .nil) _ fun u h3 t3 x3 A3 e3 r3 => h _ _ _ x3 A3 (e'.trans e3) r3
end
end
section
open PySem PySem.W PyProof.Rows PySem.Calls PySem.Spec
section
variable {W : Wd} {b : Bool} {d : Nat} {sc : Scope} {fr fr' fr₁ fr₂ : Fr2} {H H' H₁ H₂ H₃ : Hp} {v v' : AV} {e e' : PySem.Expr} {p : Pos} {fl : Fl}
theorem Ex.assign {y : Str} {yp : Pos} {ns : List Str} {vs vs' : List (Option AV)} (h1 : Ev W b d sc e (ns, vs) H v H₁) (put : Put ns vs y v vs') (hx : sc.names.lookup y = some .local)
    (hs : ∀ env, env.scope = sc → swapsWith e (some (.Name y yp)) p.line env = pure false) : Ex W b d sc (.Assign [.Name y yp] e p) (ns, vs) H .next (ns, vs') H₁ := by
  intro c O s m x A F Q E h
  refine wpAny_Assign_Name (h1 c O s m x A F _ _ fun u h' t' x' A' e' r' => ?_) (hs _ rfl)
  exact storeX_L (s := { s with heap := h', toks := t' }) A'.F A'.N (fun h2 F2 N2 => h .next _ h2 _ x' ⟨F2, N2, A'.ok⟩ ((F.mono e').put put r' (O.nl hx)) e' trivial) O.hk hx
theorem set_attr {c : Cx} {m : Str → Option Value} {x : LW} {s : Shared} {k : Nat} {C : Addr} {fs fs' : List (Str × AV)} {q : Addr × Addr} {n : Str} {u : Value} (O : CxOk W b d sc c) (A : At W c m H s.heap x) (hk : H[k]? = some (.inst C fs)) (hq : x.ad[k]? = some q) (fp : FPut fs n v fs')
    (nd : (fs'.map (·.1)).Nodup) (hl : fs'.length ≤ 1000) (ok : storeOkK W.K C n = true) (r : VR W.kp x v u) {Q : Unit → Shared → Prop} {E : Value → Shared → Prop}
    (h : ∀ h' t' x', At W c m (H.set k (.inst C fs')) h' x' → Ext x x' → Q () { s with heap := h', toks := t' }) : wpAny (model W.prog W.w) c.A (setAttr (.ref q.1) n u) Q E s := by
  simp only [storeOkK, Bool.and_eq_true, beq_iff_eq] at ok
  obtain ⟨⟨⟨o1, o2⟩, o3⟩, o4⟩ := ok
  obtain ⟨es, nn, m1, m2, fr'⟩ := A.inst hk hq
  have R := fp.rel (hs := PyData.keyHash W.w.params n) (t := s.toks + 1) nd fr' r
  have hown : q.2 ∈ x.own := A.owned hk hq (.tail _ (.head _))
  have ex : ∀ o', Ext x (x.put q.2 o') := fun o' => LW.put_ext hown
  refine set_dict A.F O.X A.N (InstAt.of_news A.N m1 m2) rfl o1 o2 o3 o4 fr'.told rfl (upd_setAt A.ok.keys m2) ?_ fun h' F' N' => h h' _ _ (A.put' F' N' hk hq (.tail _ (.head _)) (O' := .inst C fs') trivial ?_) (ex _)
  · rw [← R.length]; exact hl
  · refine ⟨_, _, mem_setAt_ne m1 ?_, mem_setAt_self m2, FsR.mono (ex _) R⟩
    intro e
    have nd2 := A.ok.keys
    have hne : instObj C q.2 = dictOf es nn := by
      have e1 := A.N.get m1
      have e2 := A.N.get m2
      have e3 : q.1 = q.2 := e
      rw [e3] at e1
      exact Option.some.inj (e1.symm.trans e2)
    exact absurd (congrArg Obj.cls hne) (by intro z; cases z)
theorem Ex.setAttr {o : PySem.Expr} {n : Str} {ap : Pos} {k : Nat} {C : Addr} {fs fs' : List (Str × AV)} (h1 : Ev W b d sc e fr H v H₁) (h2 : Ev W b d sc o fr H₁ (.obj k) H₂) (hk : H₂[k]? = some (.inst C fs)) (fp : FPut fs n v fs')
    (nd : (fs'.map (·.1)).Nodup) (hl : fs'.length ≤ 1000) (ok : storeOkK W.K C n = true) (hs : ∀ env, env.scope = sc → swapsWith e (some (.Attribute o n ap)) p.line env = pure false) :
    Ex W b d sc (.Assign [.Attribute o n ap] e p) fr H .next fr (H₂.set k (.inst C fs')) := by
  intro c O s m x A F Q E h
  refine plainObj_wpAny_Assign_Attribute (h1 c O s m x A F _ _ fun u h' t' x' A' e' r' => ?_) (hs _ rfl)
  refine h2 c O _ m x' A' (F.mono e') _ _ fun u2 h2' t2 x2 A2 e2 r2 => ?_
  obtain ⟨_, hq, rfl⟩ := VR.o r2
  exact set_attr (s := { s with heap := h2', toks := t2 }) O A2 hk hq fp nd hl ok (r'.mono e2) fun h3 t3 x3 A3 e3 => h .next m h3 t3 x3 A3 (F.mono ((e'.trans e2).trans e3)) ((e'.trans e2).trans e3) trivial
theorem Ex.augAttr {o : PySem.Expr} {n : Str} {ap : Pos} {k : Nat} {C : Addr} {fs fs' : List (Str × AV)} {i j : Int} (h1 : Ev W b d sc o fr H (.obj k) H) (hk : H[k]? = some (.inst C fs)) (hm : (n, .int i) ∈ fs) (nd0 : (fs.map (·.1)).Nodup) (ok0 : attrOk W.K C n = true)
    (h2 : Ev W b d sc e fr H (.int j) H₁) (hk1 : H₁[k]? = some (.inst C fs)) (fp : FPut fs n (.int (i + j)) fs')
    (nd : (fs'.map (·.1)).Nodup) (hl : fs'.length ≤ 1000) (ok : storeOkK W.K C n = true) :
    Ex W b d sc (.AugAssign (.Attribute o n ap) .Add e p) fr H .next fr (H₁.set k (.inst C fs')) := by
  intro c O s m x A F Q E h
  refine wpAny_AugAssign_AttributeAny (h1 c O s m x A F _ _ fun u h' t' x' A' e' r' => ?_)
  obtain ⟨_, hq, rfl⟩ := VR.o r'
  obtain ⟨es, nn, m1, m2, fr'⟩ := A'.inst hk hq
  obtain ⟨u, g, r⟩ := fr'.get nd0 hm
  simp only [attrOk, Bool.and_eq_true] at ok0
  obtain ⟨⟨g1, g2⟩, g3⟩ := ok0
  cases hf : findIn W.K (.ref C) n with
  | none => rw [hf] at g3; cases g3
  | some a =>
    rw [hf] at g3
    refine get_own (s := { s with heap := h', toks := t' }) A'.F O.X (InstAt.of_news A'.N m1 m2) g1 g2 hf g3 g (AV.handed r rfl) ?_
    refine h2 c O { s with heap := h', toks := t' + 1 } m x' A' (F.mono e') _ _ fun u2 h2' t2 x2 A2 e2 r2 => ?_
    cases r; cases r2
    refine iadd_int ?_
    exact set_attr (s := { s with heap := h2', toks := t2 + 1 }) O A2 hk1 (e2.at hq) fp nd hl ok (.int _ _) fun h3 t3 x3 A3 e3 => h .next m h3 t3 x3 A3 (F.mono ((e'.trans e2).trans e3)) ((e'.trans e2).trans e3) trivial
theorem set_item {c : Cx} {m : Str → Option Value} {x : LW} {s : Shared} {k : Nat} {l : List AV} {q : Addr × Addr} {n : Int} {t : Tok} {u : Value} (A : At W c m H s.heap x) (hk : H[k]? = some (.list l)) (hq : x.ad[k]? = some q) (h0 : 0 ≤ n) (hn : n < 2 ^ 63) (hlt : n.toNat < l.length)
    (r : VR W.kp x v u) {Q : Unit → Shared → Prop} {E : Value → Shared → Prop}
    (h : ∀ h' t' x', At W c m (H.set k (.list (l.set n.toNat v))) h' x' → Ext x x' → Q () { s with heap := h', toks := t' }) : wpAny (model W.prog W.w) c.A (setItem (.ref q.1) (.int n t) u) Q E s := by
  obtain ⟨its, nn, m1, hv⟩ := A.list hk hq
  have hown : q.1 ∈ x.own := A.owned hk hq (.head _)
  have hln := hv.length
  refine setItem_ex (A.N.get m1) h0 hn (by omega) ?_
  have ex := LW.put_ext (x := x) (o := lstO (its.set n.toNat u) nn) hown
  exact h _ s.toks _ (A.put hk hq (.head _) m1 mapSeq_set rfl (O' := .list (l.set n.toNat v)) trivial ⟨_, nn, mem_setAt_self m1, (hv.set _ r).mono ex⟩) ex
theorem Ex.setItem {o i : PySem.Expr} {ip : Pos} {k : Nat} {l : List AV} {n : Int} (h1 : Ev W b d sc e fr H v H₁) (h2 : Ev W b d sc o fr H₁ (.obj k) H₂) (h3 : Ev W b d sc i fr H₂ (.int n) H₃) (hk : H₃[k]? = some (.list l)) (h0 : 0 ≤ n) (hn : n < 2 ^ 63) (hlt : n.toNat < l.length)
    (hs : ∀ env, env.scope = sc → swapsWith e (some (.Subscript o i ip)) p.line env = pure false) :
    Ex W b d sc (.Assign [.Subscript o i ip] e p) fr H .next fr (H₃.set k (.list (l.set n.toNat v))) := by
  intro c O s m x A F Q E h
  refine wpAny_Assign_Subscript (h1 c O s m x A F _ _ fun u h' t' x' A' e' r' => ?_) (hs _ rfl)
  refine h2 c O _ m x' A' (F.mono e') _ _ fun u2 h2' t2 x2 A2 e2 r2 => ?_
  refine h3 c O _ m x2 A2 (F.mono (e'.trans e2)) _ _ fun u3 h3' t3 x3 A3 e3 r3 => ?_
  obtain ⟨_, hq, rfl⟩ := VR.o r2
  first | obtain rfl := VR.v r3 | obtain ⟨_, rfl⟩ := VR.i r3 | obtain rfl := VR.t r3 | obtain rfl := VR.n r3 | obtain ⟨_, rfl⟩ := VR.s r3 | cases r3
  exact set_item (s := { s with heap := h3', toks := t3 }) A3 hk (e3.at hq) h0 hn hlt (r'.mono (e2.trans e3)) fun h4 t4 x4 A4 e4 => h .next m h4 t4 x4 A4 (F.mono (((e'.trans e2).trans e3).trans e4)) (((e'.trans e2).trans e3).trans e4) trivial
theorem Ex.augItem {o i : PySem.Expr} {ip : Pos} {k : Nat} {l : List AV} {n a j : Int} (h2 : Ev W b d sc o fr H (.obj k) H) (h3 : Ev W b d sc i fr H (.int n) H) (hk : H[k]? = some (.list l)) (h0 : 0 ≤ n) (hn : n < 2 ^ 63) (hx : l[n.toNat]? = some (.int a)) (h4 : Ev W b d sc e fr H (.int j) H)
    (hi : ∀ ov iv new, augStore i ov iv new = (do holding [new, ov, iv] (PySem.setItem ov iv new); release [new, ov, iv] []; pure .next)) :
    Ex W b d sc (.AugAssign (.Subscript o i ip) .Add e p) fr H .next fr (H.set k (.list (l.set n.toNat (.int (a + j))))) := by
  intro c O s m x A F Q E h
  refine wpAny_AugAssign_SubscriptAny (h2 c O s m x A F _ _ fun u2 h2' t2 x2 A2 e2 r2 => ?_) hi
  refine h3 c O _ m x2 A2 (F.mono e2) _ _ fun u3 h3' t3 x3 A3 e3 r3 => ?_
  obtain ⟨_, hq, rfl⟩ := VR.o r2
  first | obtain rfl := VR.v r3 | obtain ⟨_, rfl⟩ := VR.i r3 | obtain rfl := VR.t r3 | obtain rfl := VR.n r3 | obtain ⟨_, rfl⟩ := VR.s r3 | cases r3
  obtain ⟨its, nn, m1, hv⟩ := A3.list hk (e3.at hq)
  obtain ⟨w', hw, rw'⟩ := hv.get hx
  refine wpAny_getItem_list (s := { s with heap := h3', toks := t3 }) ⟨_, A3.N.get m1, rfl, nn, rfl⟩ h0 hn (by simpa using hw) ?_
  refine h4 c O _ m x3 A3 (F.mono (e2.trans e3)) _ _ fun u4 h4' t4 x4 A4 e4 r4 => ?_
  cases rw'; cases r4
  refine iadd_int ?_
  exact set_item (s := { s with heap := h4', toks := t4 + 1 }) A4 hk ((e3.trans e4).at hq) h0 hn (List.getElem?_eq_some_iff.mp hx).1 (.int _ _) fun h5 t5 x5 A5 e5 => h .next m h5 t5 x5 A5 (F.mono (((e2.trans e3).trans e4).trans e5)) (((e2.trans e3).trans e4).trans e5) trivial
theorem Ex.augName {y : Str} {yp : Pos} {ns : List Str} {vs vs' : List (Option AV)} {i j : Int} (l : Loc ns vs y (.int i)) (h1 : Ev W b d sc e (ns, vs) H (.int j) H₁) (put : Put ns vs y (.int (i + j)) vs') (hx : sc.names.lookup y = some .local) :
    Ex W b d sc (.AugAssign (.Name y yp) .Add e p) (ns, vs) H .next (ns, vs') H₁ := by
  intro c O s m x A F Q E h
  obtain ⟨u, hu, r⟩ := F.loc l (O.nl hx)
  refine wpAny_AugAssign_Name (wpAny_loadName_local O.hk hx A.F.ns hu ?_)
  refine h1 c O s m x A F _ _ fun u2 h' t' x' A' e' r' => ?_
  cases r; cases r'
  refine iadd_int ?_
  exact storeX_L (s := { s with heap := h', toks := t' + 1 }) A'.F A'.N (fun h2 F2 N2 => h .next _ h2 _ x' ⟨F2, N2, A'.ok⟩ ((F.mono e').put put (.int _ _) (O.nl hx)) e' trivial) O.hk hx
theorem Ex.expr (h1 : Ev W b d sc e fr H v H₁) (hi : ∀ env, env.scope = sc → interactive env = false) (hs : ∀ env, env.scope = sc → swapsWith e none p.line env = pure false) : Ex W b d sc (.Expr e p) fr H .next fr H₁ := by
  intro c O s m x A F Q E h
  exact wpAny_Expr_any (h1 c O s m x A F _ _ fun u h' t' x' A' e' r' => h .next m h' t' x' A' (F.mono e') e' trivial) (hi _ rfl) (hs _ rfl)
theorem Ex.ret (h1 : Ev W b d sc e fr H v H₁) : Ex W b d sc (.Return (some e) p) fr H (.ret v) fr H₁ := by
  intro c O s m x A F Q E h
  exact wpAny_Return_some (h1 c O s m x A F _ _ fun u h' t' x' A' e' r' => h (.ret u) m h' t' x' A' (F.mono e') e' r')
theorem Ex.retN : Ex W b d sc (.Return none p) fr H (.ret .none) fr H := by
  intro c O s m x A F Q E h
  exact wpAny_Return_none (h (.ret .none) m s.heap s.toks x A F (Ext.refl x) .none)
theorem Ex.ifT {A B : List PySem.Stmt} (h1 : Ts W b d sc e fr H true H₁) (h2 : Exs W b d sc A fr H₁ fl fr' H₂) : Ex W b d sc (.If e A B p) fr H fl fr' H₂ := by
  intro c O s m x A F Q E h
  refine wpAny_If (h1 c O s m x A F _ _ fun h' t' x' A' e' => ?_)
  rw [if_pos rfl]
  exact h2 c O _ m x' A' (F.mono e') _ _ fun f m2 h2' t2 x2 A2 F2 e2 r2 => h f m2 h2' t2 x2 A2 F2 (e'.trans e2) r2
theorem Ex.ifF {A B : List PySem.Stmt} (h1 : Ts W b d sc e fr H false H₁) (h2 : Exs W b d sc B fr H₁ fl fr' H₂) : Ex W b d sc (.If e A B p) fr H fl fr' H₂ := by
  intro c O s m x A F Q E h
  refine wpAny_If (h1 c O s m x A F _ _ fun h' t' x' A' e' => ?_)
  rw [if_neg (by decide)]
  exact h2 c O _ m x' A' (F.mono e') _ _ fun f m2 h2' t2 x2 A2 F2 e2 r2 => h f m2 h2' t2 x2 A2 F2 (e'.trans e2) r2
theorem Exs.nil : Exs W b d sc [] fr H .next fr H := by
  intro c O s m x A F Q E h
  exact wpAny_execs_nil (h .next m s.heap s.toks x A F (Ext.refl x) trivial)
theorem Exs.next {st : PySem.Stmt} {ss : List PySem.Stmt} (h1 : Ex W b d sc st fr H .next fr₁ H₁) (h2 : Exs W b d sc ss fr₁ H₁ fl fr' H₂) : Exs W b d sc (st :: ss) fr H fl fr' H₂ := by
  intro c O s m x A F Q E h
  refine wpAny_execs_cons (h1 c O s m x A F _ _ fun f m' h' t' x' A' F' e' r' => ?_)
  cases f with
  | next => exact h2 c O _ m' x' A' F' _ _ fun f m2 h2' t2 x2 A2 F2 e2 r2 => h f m2 h2' t2 x2 A2 F2 (e'.trans e2) r2
  | _ => exact r'.elim
theorem Exs.ret {st : PySem.Stmt} {ss : List PySem.Stmt} (h1 : Ex W b d sc st fr H (.ret v) fr₁ H₁) : Exs W b d sc (st :: ss) fr H (.ret v) fr₁ H₁ := by
  intro c O s m x A F Q E h
  refine wpAny_execs_cons (h1 c O s m x A F _ _ fun f m' h' t' x' A' F' e' r' => ?_)
  cases f with
  | ret u => exact h _ m' h' t' x' A' F' e' r'
  | _ => exact r'.elim
inductive WT (W : Wd) (b : Bool) (d : Nat) (sc : Scope) (test : PySem.Expr) (body : List PySem.Stmt) : Nat → Fr2 → Hp → Fl → Fr2 → Hp → Prop
  | done {fr : Fr2} {H H₁ : Hp} : Ts W b d sc test fr H false H₁ → WT W b d sc test body 0 fr H .next fr H₁
  | turn {n : Nat} {fr fr₁ fr₂ : Fr2} {H H₁ H₂ H₃ : Hp} {fl : Fl} : Ts W b d sc test fr H true H₁ → Exs W b d sc body fr H₁ .next fr₁ H₂ → WT W b d sc test body n fr₁ H₂ fl fr₂ H₃ → WT W b d sc test body (n + 1) fr H fl fr₂ H₃
  | ret {fr fr₁ : Fr2} {H H₁ H₂ : Hp} {v : AV} : Ts W b d sc test fr H true H₁ → Exs W b d sc body fr H₁ (.ret v) fr₁ H₂ → WT W b d sc test body 0 fr H (.ret v) fr₁ H₂
inductive WhI (W : Wd) (b : Bool) (d : Nat) (sc : Scope) (e : PySem.Expr) (body : List PySem.Stmt) (fl : Fl) (fr' : Fr2) (H' : Hp) (c : Cx) (s : Shared) (x : LW) : Nat → Shared → Prop
  | mk {n : Nat} {fr₀ : Fr2} {H₀ : Hp} {m₀ : Str → Option Value} {h₀ : Heap} {t₀ : Nat} {x₀ : LW} : WT W b d sc e body n fr₀ H₀ fl fr' H' → At W c m₀ H₀ h₀ x₀ → FrR W.kp c x₀ fr₀ m₀ → Ext x x₀ → WhI W b d sc e body fl fr' H' c s x n { s with heap := h₀, toks := t₀ }
theorem Ex.while {n : Nat} {body : List PySem.Stmt} (h1 : WT W b d sc e body n fr H fl fr' H') : Ex W b d sc (.While e body [] p) fr H fl fr' H' := by
  intro c O s m x A F Q E h
  refine wpAny_While ?_
  refine codeAny_whileLoop (WhI W b d sc e body fl fr' H' c s x) ?_ n (.mk h1 A F (Ext.refl x))
  intro n s' J
  cases J with
  | mk w A₀ F₀ e₀ =>
  rename_i fr₀ H₀ m₀ h₀ t₀ x₀
  cases w with
  | done t =>
    refine t c O _ m₀ x₀ A₀ F₀ _ _ fun h' t' x' A' e' => ?_
    rw [if_neg (by decide)]
    exact wpAny_execs_nil (h .next m₀ h' t' x' A' (F₀.mono e') (e₀.trans e') trivial)
  | turn t bd w =>
    refine t c O _ m₀ x₀ A₀ F₀ _ _ fun h' t' x' A' e' => ?_
    rw [if_pos rfl]
    refine bd c O _ m₀ x' A' (F₀.mono e') _ _ fun f m2 h2 t2 x2 A2 F2 e2 r2 => ?_
    cases f with
    | next => exact ⟨_, Nat.lt_succ_self _, .mk w A2 F2 ((e₀.trans e').trans e2)⟩
    | _ => exact r2.elim
  | ret t bd =>
    refine t c O _ m₀ x₀ A₀ F₀ _ _ fun h' t' x' A' e' => ?_
    rw [if_pos rfl]
    refine bd c O _ m₀ x' A' (F₀.mono e') _ _ fun f m2 h2 t2 x2 A2 F2 e2 r2 => ?_
    cases f with
    | ret u => exact h _ m2 h2 t2 x2 A2 F2 ((e₀.trans e').trans e2) r2
    | _ => exact r2.elim
end
end
section
open PySem PySem.W PyProof.Rows PySem.Calls PySem.Spec
section
variable {W : Wd} {b : Bool} {d : Nat} {sc : Scope} {fr fr' fr₁ fr₂ : Fr2} {H H' H₁ H₂ H₃ : Hp} {v v' : AV} {e e' : PySem.Expr} {p : Pos} {fl : Fl}
noncomputable def startFr (ps ls : List Str) (args : List AV) : Fr2 := (ps ++ ls, args.map some ++ ls.map fun _ => none)
theorem no_loc0 {ls : List Str} : ∀ {y : Str} {v : AV}, ¬ Loc ls (ls.map fun _ => (none : Option AV)) y v := by
  induction ls with
  | nil => intro y v l; cases l
  | cons z ls ih => intro y v l; cases l with | s l => exact ih l
theorem look_last {A : List (Str × Value)} {pn y : Str} {u0 : Value} : (A ++ [(pn, u0)]).lookup y = (A.lookup y).or (if y == pn then some u0 else none) := by
  induction A with
  | nil => rw [List.nil_append, List.lookup_cons]; cases h : y == pn <;> rfl
  | cons q A ih =>
    rw [List.cons_append, List.lookup_cons, List.lookup_cons, ih]
    cases h : y == q.1 <;> rfl
theorem zip_look {K : KP} {x : LW} {ls : List Str} {no : List (Option AV)} {ps : List Str} : ∀ {vs : List AV} {us : List Value}, (ps ++ ls).Nodup → VRs K x vs us → ps.length = us.length → no = ls.map (fun _ => none) → ∀ {y : Str} {v : AV}, Loc (ps ++ ls) (vs.map some ++ no) y v →
    ∃ u, (ps.zip us).reverse.lookup y = some u ∧ VR K x v u := by
  induction ps with
  | nil =>
    intro vs us nd r hl hno y v l
    subst hno
    cases us with
    | cons _ _ => cases hl
    | nil => cases vs with
      | nil => exact (no_loc0 l).elim
      | cons _ _ => obtain ⟨_, _, e, _⟩ := r.cc; cases e
  | cons pn ps ih =>
    intro vs us nd r hl hno y v l
    cases vs with
    | nil => rw [r.zz] at hl; cases hl
    | cons v0 vs =>
    obtain ⟨u0, us, rfl, r, rs⟩ := r.cc
    rw [List.cons_append, List.nodup_cons] at nd
    have hz : ((pn :: ps).zip (u0 :: us)).reverse = (ps.zip us).reverse ++ [(pn, u0)] := List.reverse_cons
    rw [hz, look_last]
    cases l with
    | z =>
      refine ⟨u0, ?_, r⟩
      have nn : (ps.zip us).reverse.lookup pn = none := by
        rw [List.lookup_eq_none_iff]
        intro q hq
        have hq' : q ∈ ps.zip us := List.mem_reverse.mp hq
        have : q.1 ∈ ps := (List.of_mem_zip hq').1
        exact bne_iff_ne.mpr fun e => nd.1 (List.mem_append_left _ (by rw [e]; exact this))
      rw [nn, beq_self_eq_true, if_pos rfl]; rfl
    | s l =>
      obtain ⟨u, hu, ru⟩ := ih nd.2 rs (Nat.succ.inj hl) hno l
      exact ⟨u, by rw [hu]; rfl, ru⟩
noncomputable def Fl.back : Fl → Option AV
  | .next => some .none
  | .ret v => some v
  | _ => none
theorem Cl.ofBody {f : Addr} {name qual : Str} {params : Arguments} {body : List PySem.Stmt} {scope : Scope} {dV kV doc pm cdv ct oc : Value} {an od : Option Addr} {osl : Array (Option Value)} {args : List AV} {ps ls : List Str} {r : AV}
    (hf : W.K.lookup f = some ⟨oc, od, .func (fnOf name qual params body scope dV kV doc pm an cdv ct), osl⟩) (hcd : codeIn W.K cdv qual = true)
    (hbind : ∀ us : List Value, us.length = ps.length → bindArgs (fnOf name qual params body scope dV kV doc pm an cdv ct) ⟨us, []⟩ = pure (ps.zip us)) (hloc : ps.all (fun y => scope.names.lookup y == some .local) = true)
    (hn : args.length = ps.length) (nd : (ps ++ ls).Nodup) (hcell : ∀ x ∈ scope.names, x.2 ≠ .cell) (hco : scope.isCoroutine = false) (hgen : scope.isGenerator = false) (hk : scope.kind = .function)
    (h : Exs W b d scope body (startFr ps ls args) H fl fr' H') (hr : fl.back = some r) : Cl W b (d + 1) f args H r H' := by
  intro sc c O s m x A us hus R hR
  have hus' := hus.length
  have hul : us.length = ps.length := by omega
  refine callX_plain (cl := []) O.B A.F A.N O.T.nolimit O.hA rfl O.hk ((O.X.keeps A.F.keep) _ _ hf) rfl (codeRec_of (O.X.keeps A.F.keep) hcd) (by have := O.dep; show c.A.depth < 1000; omega) (BindsTo.of_eq (hbind us hul)) ?_ (fun g L' h₁ FG F' N' B' st lv => ?_) hcell hco hgen hk
  · intro y hy
    have : y.1 ∈ ps := (List.of_mem_zip hy).1
    exact beq_iff_eq.mp (List.all_eq_true.mp hloc y.1 this)
  · let c' : Cx := { A₀ := c.A, A := c.A.deeper (envX qual scope L' f cdv []), base := c.base, h₀ := g, outer := c.env sc :: c.outer, qual := qual, L := L', f := f, cd := cdv, cl := [] }
    have O' : CxOk W b d scope c' := ⟨B', Around.frames_deeper O.hA, hk, O.XB, O.TB, (by have := O.dep; show c.A.depth + 1 + d < 1000; omega), (by have := O.un; show c.A.units + 3 + 4 * d + 100 < 9900; omega), O.hh, (fun y a q => nomatch q), (by have := O.d1; show 302 ≤ c.A.depth + 1; omega), (by have := O.d1; intro (q : c.A.depth + 1 = 302); omega), no_cell hcell⟩
    refine h c' O' { s with heap := h₁, toks := s.toks + (ps.zip us).length } (fun y => (ps.zip us).reverse.lookup y) x ⟨F', N', A.ok⟩ ⟨nd, fun y v l => let ⟨u, a, r⟩ := zip_look nd hus hul.symm rfl l; ⟨u, .inl ⟨rfl, a⟩, r⟩⟩ _ _ fun f' m' h' t' x' A' F2 e' r' => ?_
    refine leaveK_ A'.F A'.N fun kF kN => ?_
    cases fl with
    | next =>
      cases f' with
      | next => cases hr; exact hR .none h' t' x' ⟨kF, kN, A'.ok⟩ e' .none
      | _ => exact r'.elim
    | ret v =>
      cases f' with
      | ret u => cases hr; exact hR u h' t' x' ⟨kF, kN, A'.ok⟩ e' r'
      | _ => exact r'.elim
    | _ => cases hr
end
end
section
open PySem PySem.W PyProof.Rows PySem.Calls PySem.Spec
section
variable {W : Wd} {b : Bool} {d : Nat} {sc : Scope} {fr fr' fr₁ fr₂ : Fr2} {H H' H₁ H₂ H₃ : Hp} {v v' : AV} {e e' : PySem.Expr} {p : Pos} {fl : Fl}
theorem put_extS {x : LW} (nd : (x.led.map (·.1)).Nodup) {I : Addr} {o o' : Obj} (hm : (I, o) ∈ x.led) (hf : fz o = false) : ExtS x (x.put I o') := by
  refine ⟨List.prefix_refl _, fun q hq _ hz => mem_setAt_ne hq fun e => ?_, fun _ h => .inl h, fun a h => by show a ∈ (setAt x.led I o').map (·.1); rw [setAt_keys]; exact h⟩
  have : q = (I, o) := by
    have key : ∀ {l : List (Addr × Obj)}, (l.map (·.1)).Nodup → ∀ {q r : Addr × Obj}, q ∈ l → r ∈ l → q.1 = r.1 → q = r := by
      intro l
      induction l with
      | nil => intro _ q r hq; cases hq
      | cons z l ih =>
        intro nd q r hq hr e
        rw [List.map_cons, List.nodup_cons] at nd
        rcases List.mem_cons.mp hq with e1 | hq1
        · rcases List.mem_cons.mp hr with e2 | hr1
          · rw [e1, e2]
          · exact absurd (by have := List.mem_map_of_mem (f := Prod.fst) hr1; rw [← e, e1] at this; exact this) nd.1
        · rcases List.mem_cons.mp hr with e2 | hr1
          · exact absurd (by have := List.mem_map_of_mem (f := Prod.fst) hq1; rw [e, e2] at this; exact this) nd.1
          · exact ih nd.2 hq1 hr1 e
    exact key nd hq hm e
  rw [this] at hz
  rw [hf] at hz
  cases hz
theorem At.turn {c : Cx} {m : Str → Option Value} {h h' : Heap} {x : LW} {I : Addr} {o o' : Obj} (A : At W c m H h x) (hm : (I, o) ∈ x.led) (hf : fz o = false) (hI : I ∉ x.own) (hs : Heap.SameBut I h h') (ho' : h'.get? I = some o') :
    At W c m H h' (x.put I o') ∧ ExtS x (x.put I o') := by
  have ex := put_extS (o' := o') A.ok.keys hm hf
  obtain ⟨n1, n2, n3⟩ := A.N _ hm
  refine ⟨⟨A.F.change hs n2 n3, fun q hq => ?_, ?_, A.ok.own, A.ok.nd, A.ok.len, fun k O q hk hq => ?_⟩, ex⟩
  · have hq : q ∈ setAt x.led I o' := hq
    unfold setAt at hq
    obtain ⟨r, hr, e⟩ := List.mem_map.mp hq
    by_cases h1 : r.1 = I
    · rw [if_pos h1] at e
      subst e
      exact ⟨ho', n2, n3⟩
    · rw [if_neg h1] at e
      subst e
      exact ⟨(hs.2 _ h1).trans (A.N r hr).1, (A.N r hr).2⟩
  · show ((setAt x.led I o').map (·.1)).Nodup
    rw [setAt_keys]; exact A.ok.keys
  · refine (A.ok.objs k O q hk hq).monoV ex.toV fun a oa ha hma => mem_setAt_ne hma fun e => hI ?_
    have e : a = I := e
    exact e ▸ A.owned hk hq ha
theorem Ext.put_off {x₀ x : LW} {I : Addr} {o' : Obj} (e : Ext x₀ x) (h : I ∉ x₀.led.map (·.1)) : Ext x₀ (x.put I o') :=
  ⟨e.ad, fun q hq ho => mem_setAt_ne (e.led q hq ho) fun z => h (z ▸ List.mem_map_of_mem hq), e.own, fun a h => by show a ∈ (setAt x.led I o').map (·.1); rw [setAt_keys]; exact e.keys a h⟩
theorem At.drop {c : Cx} {m : Str → Option Value} {h h' : Heap} {x : LW} {I : Addr} {o : Obj} (A₀ : At W c m H h x) (hm₀ : (I, o) ∈ x.led) (hz : fz o = false) (hI₀ : I ∉ x.own) (hx : Heap.ExtBut I h h') :
    ∃ x₁, At W c m H h' x₁ ∧ ExtV x x₁ ∧ x₁.ad = x.ad ∧ ∀ z, Ext z x → I ∉ z.led.map (·.1) → Ext z x₁ := by
  obtain ⟨n1, n2, n3⟩ := A₀.N _ hm₀
  let x₁ : LW := { x with led := x.led.filter fun q => decide (q.1 ≠ I) }
  have mem₁ : ∀ {q : Addr × Obj}, q ∈ x.led → q.1 ≠ I → q ∈ x₁.led := fun hq hn => List.mem_filter.mpr ⟨hq, decide_eq_true hn⟩
  have off₁ : ∀ {q : Addr × Obj}, q ∈ x₁.led → q ∈ x.led ∧ q.1 ≠ I := fun hq => ⟨(List.mem_filter.mp hq).1, of_decide_eq_true (List.mem_filter.mp hq).2⟩
  have eV : ExtV x x₁ := by
    refine ⟨List.prefix_refl _, fun q hq ho hz' => ⟨mem₁ hq fun e => ?_, ho⟩⟩
    have k1 : q = (I, o) := by
      have e1 := A₀.N.get (a := q.1) (o := q.2) hq
      have e2 := A₀.N.get hm₀
      rw [e] at e1
      have e3 : q.2 = o := Option.some.inj (e1.symm.trans e2)
      exact Prod.ext e e3
    rw [k1] at hz'
    rw [hz] at hz'
    cases hz'
  refine ⟨x₁, ⟨⟨?_, fun b ob e => hx b ob (fun z => ?_) (A₀.F.keep b ob e), A₀.F.above⟩, fun q hq => ?_, ⟨?_, A₀.ok.own, A₀.ok.nd, A₀.ok.len, fun k O' q hk hq => ?_⟩⟩, eV, rfl, fun z ez hz => ?_⟩
  · obtain ⟨oL, es, ep, hL, r⟩ := A₀.F.ns
    exact ⟨oL, es, ep, hx _ _ (Ne.symm n2) hL, r⟩
  · rw [z, n3] at e; cases e
  · obtain ⟨hq, hn'⟩ := off₁ hq
    exact ⟨hx _ _ hn' (A₀.N q hq).1, (A₀.N q hq).2⟩
  · exact (List.filter_sublist.map _).nodup A₀.ok.keys
  · exact (A₀.ok.objs k O' q hk hq).monoV eV fun a oa ha hma => mem₁ hma fun e => hI₀ (by have e : a = I := e; exact e ▸ A₀.owned hk hq ha)
  · refine ⟨ez.ad, fun q hq ho => mem₁ (ez.led q hq ho) fun e => hz (e ▸ List.mem_map_of_mem hq), ez.own, fun a ha => ?_⟩
    obtain ⟨q, hq, e⟩ := List.mem_map.mp (ez.keys a ha)
    exact List.mem_map.mpr ⟨q, mem₁ hq fun z' => hz (by rw [← z', e]; exact ha), e⟩
structure ItS (x : LW) (I : Addr) (G : Nat → Obj → Prop) (items rest : List AV) (i : Nat) (x₀ : LW) (o : Obj) : Prop where
  hit : items = items.take i ++ rest
  len : i + rest.length = items.length
  e : ExtS x x₀
  hm : (I, o) ∈ x₀.led
  hI : I ∉ x₀.own
  g : G i o
  back : ∀ z, Ext z x → I ∉ z.led.map (·.1) → Ext z x₀
section
variable {x x₀ : LW} {I : Addr} {G : Nat → Obj → Prop} {items rest : List AV} {i : Nat} {o : Obj}
theorem ItS.zero (hm : (I, o) ∈ x.led) (hI : I ∉ x.own) (g : G 0 o) : ItS x I G items items 0 x o := ⟨rfl, Nat.zero_add _, ExtS.refl x, hm, hI, g, fun _ e _ => e⟩
theorem ItS.at (J : ItS x I G items (v :: rest) i x₀ o) : items[i]? = some v := by
  have hl : (items.take i).length = i := by rw [List.length_take]; exact Nat.min_eq_left (J.len ▸ Nat.le_add_right _ _)
  rw [J.hit, List.getElem?_append_right (by rw [hl]; exact Nat.le_refl _), hl, Nat.sub_self]; rfl
theorem ItS.fin (J : ItS x I G items [] i x₀ o) : G items.length o := J.len ▸ J.g
theorem ItS.step (J : ItS x I G items (v :: rest) i x₀ o) {o' : Obj} {x₃ : LW} (eS : ExtS x₀ (x₀.put I o')) (g : G (i + 1) o') (e : Ext (x₀.put I o') x₃) : ItS x I G items rest (i + 1) x₃ o' := by
  refine ⟨?_, ?_, (J.e.trans eS).trans e.toS, e.led _ (mem_setAt_self J.hm) J.hI, e.off (mem_setAt_self J.hm) J.hI, g, fun z ez hz => ((J.back z ez hz).put_off hz).trans e⟩
  · have : items.take (i + 1) = items.take i ++ [v] := by rw [List.take_add_one, J.at]; rfl
    rw [this, List.append_assoc]; exact J.hit
  · rw [Nat.add_right_comm]; exact J.len
end
inductive FT (W : Wd) (b : Bool) (d : Nat) (sc : Scope) (y : Str) (body : List PySem.Stmt) : List AV → Fr2 → Hp → Fl → Fr2 → Hp → Prop
  | done {fr : Fr2} {H : Hp} : FT W b d sc y body [] fr H .next fr H
  | turn {ns : List Str} {vs vs' : List (Option AV)} {fr₁ fr₂ : Fr2} {H H₁ H₂ : Hp} {v : AV} {rest : List AV} {fl : Fl} : Put ns vs y v vs' → Exs W b d sc body (ns, vs') H .next fr₁ H₁ → FT W b d sc y body rest fr₁ H₁ fl fr₂ H₂ → FT W b d sc y body (v :: rest) (ns, vs) H fl fr₂ H₂
  | ret {ns : List Str} {vs vs' : List (Option AV)} {fr₁ : Fr2} {H H₁ : Hp} {v r : AV} {rest : List AV} : Put ns vs y v vs' → Exs W b d sc body (ns, vs') H (.ret r) fr₁ H₁ → FT W b d sc y body (v :: rest) (ns, vs) H (.ret r) fr₁ H₁
inductive ForI (W : Wd) (b : Bool) (d : Nat) (sc : Scope) (y : Str) (body : List PySem.Stmt) (fl : Fl) (fr' : Fr2) (H' : Hp) (c : Cx) (s : Shared) (x : LW) (I : Addr) (G : Nat → Obj → Prop) (items : List AV) : Nat → Shared → Prop
  | mk {i : Nat} {fr₀ : Fr2} {H₀ : Hp} {m₀ : Str → Option Value} {h₀ : Heap} {t₀ : Nat} {x₀ : LW} {o : Obj} {rest : List AV} : ItS x I G items rest i x₀ o → FT W b d sc y body rest fr₀ H₀ fl fr' H' → At W c m₀ H₀ h₀ x₀ → FrR W.kp c x₀ fr₀ m₀ →
    ForI W b d sc y body fl fr' H' c s x I G items rest.length { s with heap := h₀, toks := t₀ }
theorem for_core {c : Cx} {m : Str → Option Value} {x : LW} {s : Shared} {y : Str} {yp : Pos} {body : List PySem.Stmt} {I : Addr} {G : Nat → Obj → Prop} {items : List AV} (O : CxOk W b d sc c) (hy : sc.names.lookup y = some .local)
    (hG : ∀ i o, G i o → fz o = false)
    (item : ∀ (i : Nat) (v : AV), items[i]? = some v → ∀ (s' : Shared) (x' : LW) (o : Obj), ExtS x x' → G i o → (∀ q ∈ x'.led, s'.heap.get? q.1 = some q.2) → s'.heap.get? I = some o → ∀ (Q : Option Value → Shared → Prop) (E : Value → Shared → Prop),
      (∀ h' t u o', Heap.SameBut I s'.heap h' → h'.get? I = some o' → G (i + 1) o' → (∀ x'', ExtS x' x'' → VR W.kp x'' v u) → Q (some u) { s' with heap := h', toks := t }) → wpAny (model W.prog W.w) c.A (pyNext (.ref I)) Q E s')
    (last : ∀ (s' : Shared) (x' : LW) (o : Obj), ExtS x x' → G items.length o → (∀ q ∈ x'.led, s'.heap.get? q.1 = some q.2) → s'.heap.get? I = some o → ∀ (Q : Option Value → Shared → Prop) (E : Value → Shared → Prop),
      (∀ h', Heap.ExtBut I s'.heap h' → Q none { s' with heap := h' }) → wpAny (model W.prog W.w) c.A (pyNext (.ref I)) Q E s')
    {o₀ : Obj} (A : At W c m H s.heap x) (F : FrR W.kp c x fr m) (hm : (I, o₀) ∈ x.led) (hI : I ∉ x.own) (g0 : G 0 o₀) (w : FT W b d sc y body items fr H fl fr' H')
    {Q : Flow → Shared → Prop} {E : Value → Shared → Prop}
    (h : ∀ f m' h' t' x', At W c m' H' h' x' → FrR W.kp c x' fr' m' → (∀ z, Ext z x → I ∉ z.led.map (·.1) → Ext z x') → FlR W.kp x' fl f → Q f { s with heap := h', toks := t' }) :
    codeAny (model W.prog W.w) c.A (.forLoop (.Name y yp) (.ref I) body [] (c.env sc)) (fun r s' => match r with | .ok f => Q f s' | .error e => cameBackBy (model W.prog W.w) c.A (c.env sc) E e s') s := by
  refine codeAny_forLoop (ForI W b d sc y body fl fr' H' c s x I G items) ?_ items.length (.mk (.zero hm hI g0) w A F)
  intro n s' J
  cases J with
  | mk J w A₀ F₀ =>
  rename_i i fr₀ H₀ m₀ h₀ t₀ x₀ o rest
  cases w with
  | done =>
    refine last { s with heap := h₀, toks := t₀ } x₀ o J.e J.fin (fun q hq => A₀.N.get hq) (A₀.N.get J.hm) _ _ fun h' hx => ?_
    refine wpAny_execs_nil ?_
    obtain ⟨x₁, A₁, eV, _, bk⟩ := A₀.drop J.hm (hG _ _ J.g) J.hI hx
    exact h .next m₀ h' t₀ x₁ A₁ (F₀.monoV eV) (fun z ez hz => bk z (J.back z ez hz) hz) trivial
  | turn put bd w =>
    refine item i _ J.at { s with heap := h₀, toks := t₀ } x₀ o J.e J.g (fun q hq => A₀.N.get hq) (A₀.N.get J.hm) _ _ fun h' t u o' hs ho' g' hr => ?_
    obtain ⟨A₁, eS⟩ := A₀.turn J.hm (hG _ _ J.g) J.hI hs ho'
    refine wpAny_assign_Name (storeX_L (s := { s with heap := h', toks := t }) A₁.F A₁.N (fun h2 F2 N2 => ?_) O.hk hy)
    refine bd c O { s with heap := h2, toks := t + 1 } _ (x₀.put I o') ⟨F2, N2, A₁.ok⟩ ((F₀.monoV eS.toV).put put (hr _ eS) (O.nl hy)) _ _ fun f m2 h3 t3 x3 A3 F3 e3 r3 => ?_
    cases f with
    | next => exact ⟨_, Nat.lt_succ_self _, .mk (J.step eS g' e3) w A3 F3⟩
    | _ => exact r3.elim
  | ret put bd =>
    refine item i _ J.at { s with heap := h₀, toks := t₀ } x₀ o J.e J.g (fun q hq => A₀.N.get hq) (A₀.N.get J.hm) _ _ fun h' t u o' hs ho' g' hr => ?_
    obtain ⟨A₁, eS⟩ := A₀.turn J.hm (hG _ _ J.g) J.hI hs ho'
    refine wpAny_assign_Name (storeX_L (s := { s with heap := h', toks := t }) A₁.F A₁.N (fun h2 F2 N2 => ?_) O.hk hy)
    refine bd c O { s with heap := h2, toks := t + 1 } _ (x₀.put I o') ⟨F2, N2, A₁.ok⟩ ((F₀.monoV eS.toV).put put (hr _ eS) (O.nl hy)) _ _ fun f m2 h3 t3 x3 A3 F3 e3 r3 => ?_
    cases f with
    | ret u => exact h _ m2 h3 t3 x3 A3 F3 (fun z ez hz => ((J.back z ez hz).put_off hz).trans e3) r3
    | _ => exact r3.elim
end
end
section
open PySem PySem.W PyProof.Rows PySem.Calls PySem.Spec
section
variable {W : Wd} {b : Bool} {d : Nat} {sc : Scope} {fr fr' fr₁ fr₂ : Fr2} {H H' H₁ H₂ H₃ : Hp} {v v' : AV} {e e' : PySem.Expr} {p : Pos} {fl : Fl}
theorem Ex.forList {y : Str} {yp : Pos} {body : List PySem.Stmt} {l : List AV} (h1 : Ev W true d sc e fr H (.fl l) H₁) (w : FT W true d sc y body l fr H₁ fl fr' H') (hy : sc.names.lookup y = some .local)
    (hs : ∀ env x, foldedSetIterable e env x = pure x) : Ex W true d sc (.For (.Name y yp) e body [] p) fr H fl fr' H' := by
  intro c O s m x A F Q E h
  refine wpAny_For (h1 c O s m x A F _ _ fun u h' t' x' A' e' r' => ?_) (hs _)
  obtain ⟨_, _, _, m1, m2, hv, rfl⟩ := VR.f r'
  rename_i its a n
  refine wpAny_pyIter_list (s := { s with heap := h', toks := t' }) ⟨_, A'.N.get m1, rfl, _, rfl⟩ ?_
  have fk := fresh_key A'
  have ex := LW.more_ext (x := x') (o := { cls := .type "list_iterator", data := .fields #[.ref a, .int 0 0] }) fk
  refine for_core (c := c) (G := fun i o => o.cls = .type "list_iterator" ∧ o.data = .fields #[.ref a, .int (i : Nat) 0]) (x := x'.more h'.objs.size { cls := .type "list_iterator", data := .fields #[.ref a, .int 0 0] }) O hy ?_ ?_ ?_ (A'.more rfl) ((F.mono e').mono ex) (.head _) (LW.more_off A'.ok fk) ⟨rfl, rfl⟩ w
    fun f m2 h2 t2 x2 A2 F2 back r2 => h f m2 h2 t2 x2 A2 F2 (back x (e'.trans ex) fun q => fk (e'.keys _ q)) r2
  · rintro i o ⟨hc, hd⟩
    unfold fz
    rw [hc, hd]
    rfl
  · rintro i v hi s' x'' o eS ⟨hc, hd⟩ hled ho Q E k
    obtain ⟨u, hu, ru⟩ := ((hv.mono ex).monoS eS).get hi
    have m3 := eS.led _ (List.mem_cons_of_mem _ m1) (LW.more_ext fk |>.off m1 m2) rfl
    refine wpAny_pyNext_list_item (x := u) (items := its.toArray) ⟨o, ho, hc, hd⟩ ⟨_, hled _ m3, rfl, _, rfl⟩ (by simpa using hu) fun h3 hit hsb => ?_
    obtain ⟨o', ho', hc', hd'⟩ := hit
    exact k h3 s'.toks u o' hsb ho' ⟨hc', hd'⟩ fun x3 e3 => ru.monoS e3
  · rintro s' x'' o eS ⟨hc, hd⟩ hled ho Q E k
    have m3 := eS.led _ (List.mem_cons_of_mem _ m1) (LW.more_ext fk |>.off m1 m2) rfl
    refine wpAny_pyNext_list_end (items := its.toArray) (O.hh rfl) ⟨o, ho, hc, hd⟩ ⟨_, hled _ m3, rfl, _, rfl⟩ ?_ k
    rw [hv.length]
    simp
noncomputable def rangeV (a : Int) (n : Nat) : List AV := (List.range n).map fun i => .int (a + (i : Nat))
theorem rangeV_get {a : Int} {n i : Nat} {v : AV} (h : (rangeV a n)[i]? = some v) : i < n ∧ v = .int (a + (i : Nat)) := by
  unfold rangeV at h
  rw [List.getElem?_map] at h
  by_cases hi : i < n
  · rw [List.getElem?_range hi] at h
    exact ⟨hi, (Option.some.inj h).symm⟩
  · rw [List.getElem?_eq_none (by simpa using hi)] at h
    cases h
theorem small_of {a b : Int} (h1 : -100000 ≤ a) (h2 : a ≤ 100000) (h3 : -100000 ≤ b) (h4 : b ≤ 100000) : Builtin.Range.small a b 1 = true := by
  unfold Builtin.Range.small
  rw [rangeSize_one]
  unfold Builtin.Range.rangeFitsLong
  split <;> simp <;> omega
theorem looks_type {M : Model} {h : Heap} {n : String} : Looks M h (keeperOf (.type n)) .machine := Looks.of_pure rfl
theorem range_core {y : Str} {yp : Pos} {body : List PySem.Stmt} {a bb : Int} {n : Nat} {c : Cx} {s : Shared} {m : Str → Option Value} {x : LW} {r : Addr} {t u v : Tok} {Q : Flow → Shared → Prop} {E : Value → Shared → Prop} (O : CxOk W true d sc c) (A : At W c m H s.heap x) (F : FrR W.kp c x fr m)
    (hr : IsRange s.heap r a bb 1 t u v) (ha : -100000 ≤ a) (ha' : a ≤ 100000) (hb : -100000 ≤ bb) (hb' : bb ≤ 100000) (hn : n = (bb - a).toNat) (w : FT W true d sc y body (rangeV a n) fr H fl fr' H') (hy : sc.names.lookup y = some .local)
    (h : ∀ f m' h' t' x', At W c m' H' h' x' → FrR W.kp c x' fr' m' → Ext x x' → FlR W.kp x' fl f → Q f { s with heap := h', toks := t' }) :
    wpAny (model W.prog W.w) c.A (pyIter (.ref r)) (fun it s₂ => codeAny (model W.prog W.w) c.A (.forLoop (.Name y yp) it body [] (c.env sc)) (fun r s' => match r with | .ok f => Q f s' | .error e => cameBackBy (model W.prog W.w) c.A (c.env sc) E e s') s₂) E s := by
  refine wpAny_pyIter_range hr (small_of ha ha' hb hb') ?_
  have fk := fresh_key A
  have hsz : Builtin.Range.rangeSize a bb 1 = (n : Int) := by rw [rangeSize_one, hn]; split <;> omega
  rw [hsz]
  have ex := LW.more_ext (x := x) (o := { cls := .type "range_iterator", data := .fields #[rawInt a, rawInt n, rawInt 1] }) fk
  refine for_core (c := c) (G := fun i o => o = { cls := .type "range_iterator", dict := none, data := .fields #[rawInt (a + (i : Nat)), rawInt ((n : Int) - (i : Nat)), rawInt 1], slots := #[] })
    (x := x.more s.heap.objs.size { cls := .type "range_iterator", data := .fields #[rawInt a, rawInt n, rawInt 1] }) O hy ?_ ?_ ?_ (A.more rfl) (F.mono ex) (.head _) (LW.more_off A.ok fk) (by simp) w
    fun f m2 h2 t2 x2 A2 F2 back r2 => h f m2 h2 t2 x2 A2 F2 (back x ex fk) r2
  · rintro i o rfl
    rfl
  · rintro i v hi s' x'' o eS rfl hled ho Q E k
    obtain ⟨hi, rfl⟩ := rangeV_get hi
    refine wpAny_pyNext_range_item ho (by omega) fun h3 hit hsb => ?_
    refine k h3 (s'.toks + 1) _ _ hsb hit ?_ fun x3 e3 => .int _ _
    have e1 : a + (i : Int) + 1 = a + ((i + 1 : Nat) : Int) := by omega
    have e2 : (n : Int) - (i : Int) - 1 = (n : Int) - ((i + 1 : Nat) : Int) := by omega
    rw [e1, e2]
  · rintro s' x'' o eS rfl hled ho Q E k
    refine wpAny_pyNext_range_end (O.hh rfl) ho ?_ k
    have : (rangeV a n).length = n := by unfold rangeV; simp
    rw [this]
    omega
theorem Ex.forRange1 {y f : Str} {yp np cp : Pos} {body : List PySem.Stmt} {bb : Int} {n : Nat} (h0 : Ev W true d sc (.Name f np) fr H (.val (.type "range")) H) (h1 : Ev W true d sc e fr H (.int bb) H₁) (hn : n = bb.toNat) (hb : -100000 ≤ bb) (hb' : bb ≤ 100000)
    (w : FT W true d sc y body (rangeV 0 n) fr H₁ fl fr' H') (hy : sc.names.lookup y = some .local) (hst : ∀ env, starEach [e] env = [(false, eval e env)])
    (hs : ∀ env x, foldedSetIterable (.Call (.Name f np) [e] [] cp) env x = pure x) : Ex W true d sc (.For (.Name y yp) (.Call (.Name f np) [e] [] cp) body [] p) fr H fl fr' H' := by
  intro c O s m x A F Q E h
  refine wpAny_For ?_ (hs _)
  refine wpAny_Call_ofName (h0 c O s m x A F _ _ fun u h' t' x' A' e' r' => ?_)
  first | obtain rfl := VR.v r' | obtain ⟨_, rfl⟩ := VR.i r' | obtain rfl := VR.t r' | obtain rfl := VR.n r' | obtain ⟨_, rfl⟩ := VR.s r' | cases r'
  refine callWith_of (P := fun _ => True) (by rw [hst]; rfl) (fun _ _ => ⟨_, .inr (.inl rfl), looks_type⟩) ?_
  rw [hst]
  refine evalArgs_plain (Calls.spliced_cons ?_)
  refine h1 c O _ m x' A' (F.mono e') _ _ fun u2 h2' t2 x2 A2 e2 r2 => ?_
  refine Calls.spliced_nil ⟨trivial, ?_⟩
  first | obtain rfl := VR.v r2 | obtain ⟨_, rfl⟩ := VR.i r2 | obtain rfl := VR.t r2 | obtain rfl := VR.n r2 | obtain ⟨_, rfl⟩ := VR.s r2 | cases r2
  refine call_range_1 ?_
  have fk := fresh_key A2
  refine range_core (H := H₁) (x := x2.more _ _) O (A2.more rfl) ((F.mono (e'.trans e2)).mono (LW.more_ext fk)) (IsRange.new ..) (by decide) (by decide) hb hb' (by omega) w hy fun f m3 h3 t3 x3 A3 F3 e3 r3 => h f m3 h3 t3 x3 A3 F3 ((e'.trans e2).trans ((LW.more_ext fk).trans e3)) r3
theorem Ex.forRange2 {y f : Str} {yp np cp : Pos} {body : List PySem.Stmt} {a bb : Int} {n : Nat} {ea eb : PySem.Expr} (h0 : Ev W true d sc (.Name f np) fr H (.val (.type "range")) H) (h1 : Ev W true d sc ea fr H (.int a) H₁) (h2 : Ev W true d sc eb fr H₁ (.int bb) H₂) (ha : -100000 ≤ a) (ha' : a ≤ 100000) (hb : -100000 ≤ bb) (hb' : bb ≤ 100000) (hn : n = (bb - a).toNat)
    (w : FT W true d sc y body (rangeV a n) fr H₂ fl fr' H') (hy : sc.names.lookup y = some .local) (hst : ∀ env, starEach [ea, eb] env = [(false, eval ea env), (false, eval eb env)])
    (hs : ∀ env x, foldedSetIterable (.Call (.Name f np) [ea, eb] [] cp) env x = pure x) : Ex W true d sc (.For (.Name y yp) (.Call (.Name f np) [ea, eb] [] cp) body [] p) fr H fl fr' H' := by
  intro c O s m x A F Q E h
  refine wpAny_For ?_ (hs _)
  refine wpAny_Call_ofName (h0 c O s m x A F _ _ fun u h' t' x' A' e' r' => ?_)
  first | obtain rfl := VR.v r' | obtain ⟨_, rfl⟩ := VR.i r' | obtain rfl := VR.t r' | obtain rfl := VR.n r' | obtain ⟨_, rfl⟩ := VR.s r' | cases r'
  refine callWith_of (P := fun _ => True) (by rw [hst]; rfl) (fun _ _ => ⟨_, .inr (.inl rfl), looks_type⟩) ?_
  rw [hst]
  refine evalArgs_plain (Calls.spliced_cons ?_)
  refine h1 c O _ m x' A' (F.mono e') _ _ fun u2 h2' t2 x2 A2 e2 r2 => ?_
  refine Calls.spliced_cons ?_
  refine h2 c O _ m x2 A2 (F.mono (e'.trans e2)) _ _ fun u3 h3' t3 x3 A3 e3 r3 => ?_
  refine Calls.spliced_nil ⟨trivial, ?_⟩
  cases r2; cases r3
  refine call_range_2 ?_
  have fk := fresh_key A3
  refine range_core (H := H₂) (x := x3.more _ _) O (A3.more rfl) ((F.mono ((e'.trans e2).trans e3)).mono (LW.more_ext fk)) (IsRange.new ..) ha ha' hb hb' hn w hy fun f m4 h4 t4 x4 A4 F4 e4 r4 => h f m4 h4 t4 x4 A4 F4 (((e'.trans e2).trans e3).trans ((LW.more_ext fk).trans e4)) r4
theorem Ev.append {o : PySem.Expr} {ap : Pos} {k : Nat} {l l' : List AV} (h1 : Ev W b d sc o fr H (.obj k) H₁) (h2 : Ev W b d sc e fr H₁ v H₂) (hk1 : H₁[k]? = some (.list l')) (hk : H₂[k]? = some (.list l)) (hl : l.length ≤ 100000)
    (hbase : ∀ env, attributeBase o "append" env (eval o env) = eval o env)
    (hfew : ∀ env, ((backTo p (starEach [e] env)).all (fun x => !x.1) && (backToKw p (keywordEach [] env)).all (fun x => x.1.isSome)
      && decide (([e] : List PySem.Expr).length + ([] : List Keyword).length + (if ([] : List Keyword).isEmpty then 0 else 1) < 30)) = true)
    (hline : (ap.endLine == p.line) = true) (htrees : ∀ env, backTo p (starEach [e] env) = [(false, eval e env)]) :
    Ev W b d sc (.Call (.Attribute o "append" ap) [e] [] p) fr H .none (H₂.set k (.list (l ++ [v]))) := by
  intro c O s m x A F Q E h
  refine wpAny_Call_append (hbase _) (hfew _) hline (htrees _) (h1 c O s m x A F _ _ fun u h' t' x' A' e' r' => ?_)
  obtain ⟨_, hq, rfl⟩ := VR.o r'
  rename_i q
  obtain ⟨its0, nn0, m0, hv0⟩ := A'.list hk1 hq
  refine ⟨q.1, its0.toArray, rfl, ⟨_, nn0, A'.N.get m0, rfl, rfl, rfl⟩, ?_⟩
  refine h2 c O _ m x' A' (F.mono e') _ _ fun u2 h2' t2 x2 A2 e2 r2 => ?_
  have hq2 := e2.at hq
  obtain ⟨its, nn, m1, hv⟩ := A2.list hk hq2
  have hln := hv.length
  have hown : q.1 ∈ x2.own := A2.owned hk hq2 (.head _)
  refine append_K (s := { s with heap := h2', toks := t2 }) (its := its.toArray) A2.F A2.N (upd_setAt A2.ok.keys m1) (fun h3 F3 N3 => ?_) ?_
  · have ex : ∀ o', Ext x2 (x2.put q.1 o') := fun o' => LW.put_ext hown
    have ee : its.toArray.push u2 = (its ++ [u2]).toArray := by simp
    refine h .none h3 t2 (x2.put q.1 (listOf (its.toArray.push u2) (nn + 1))) (A2.put' F3 N3 hk hq2 (.head _) (O' := .list (l ++ [v])) trivial ⟨its ++ [u2], nn + 1, ?_, ?_⟩) ((e'.trans e2).trans (ex _)) .none
    · rw [show lstO (its ++ [u2]) (nn + 1) = PySem.W.listOf (its.toArray.push u2) (nn + 1) from by rw [ee]]
      exact mem_setAt_self m1
    · exact (hv.append (.cons r2 .nil)).mono (ex _)
  · rw [List.size_toArray, ← hln]
    exact Nat.le_trans hl (by unfold sizeLine; decide)
noncomputable def sliceV (l : List AV) (lo hi st : Option Int) : List AV := (sliceRange (sliceBounds lo hi st l.length).1 (sliceBounds lo hi st l.length).2.1 (sliceBounds lo hi st l.length).2.2).filterMap (l[·]?)
theorem VRs.pick {K : KP} {x : LW} {l : List AV} {us : List Value} (r : VRs K x l us) : ∀ is : List Nat, VRs K x (is.filterMap (l[·]?)) (is.filterMap (us[·]?))
  | [] => .nil
  | i :: is => by
    rw [List.filterMap_cons, List.filterMap_cons]
    cases hl : l[i]? with
    | some v =>
      obtain ⟨u, hu, ru⟩ := r.get hl
      rw [hu]
      exact .cons ru (r.pick is)
    | none =>
      have : us[i]? = none := by
        rw [List.getElem?_eq_none_iff] at hl ⊢
        rw [← r.length]; exact hl
      rw [this]
      exact r.pick is
noncomputable def EvO (W : Wd) (b : Bool) (d : Nat) (sc : Scope) (e : Option PySem.Expr) (fr : Fr2) (H : Hp) (i : Option Int) (H' : Hp) : Prop := match e, i with
  | none, none => H = H'
  | some e, some i => Ev W b d sc e fr H (.int i) H'
  | _, _ => False
theorem EvO.run {eo : Option PySem.Expr} {io : Option Int} (h1 : EvO W b d sc eo fr H io H') : ∀ (c : Cx), CxOk W b d sc c → ∀ (s : Shared) (m : Str → Option Value) (x : LW), At W c m H s.heap x → FrR W.kp c x fr m → ∀ (Q : Value → Shared → Prop) (E : Value → Shared → Prop),
    (∀ u h' t' x', At W c m H' h' x' → Ext x x' → IsPart u io → Q u { s with heap := h', toks := t' }) → wpAny (model W.prog W.w) c.A (evalPart eo (c.env sc)) Q E s := by
  intro c O s m x A F Q E h
  unfold EvO at h1
  split at h1
  · subst h1
    rw [evalPart_none]
    exact wpAny_pure (h .none s.heap s.toks x A (Ext.refl x) .none)
  · rw [evalPart_some]
    exact h1 c O s m x A F _ _ fun u h' t' x' A' e' r' => h u h' t' x' A' e' (by cases r'; exact .int _ _)
  · exact h1.elim
theorem Ev.slice {o : PySem.Expr} {sp : Pos} {lo hi : Option PySem.Expr} {i j : Option Int} {k : Nat} {l : List AV} (h1 : Ev W b d sc o fr H (.obj k) H₁) (h2 : EvO W b d sc lo fr H₁ i H₂) (h3 : EvO W b d sc hi fr H₂ j H₃) (hk : H₃[k]? = some (.list l)) (hl : l.length ≤ 100000) :
    Ev W b d sc (.Subscript o (.Slice lo hi Option.none sp) p) fr H (.fl (sliceV l i j Option.none)) H₃ := by
  intro c O s m x A F Q E h
  refine Subscript_ (h1 c O s m x A F _ _ fun u h' t' x' A' e' r' => ?_)
  refine wpAny_Slice (h2.run c O _ m x' A' (F.mono e') _ _ fun u2 h2' t2 x2 A2 e2 r2 => ?_)
  refine h3.run c O _ m x2 A2 (F.mono (e'.trans e2)) _ _ fun u3 h3' t3 x3 A3 e3 r3 => ?_
  rw [evalPart_none]
  refine wpAny_pure ?_
  have fk := fresh_key A3
  have A4 := A3.more (o := { cls := .type "slice", data := .fields #[u2, u3, .none] }) rfl
  have e4 := LW.more_ext (x := x3) (o := { cls := .type "slice", data := .fields #[u2, u3, .none] }) fk
  obtain ⟨_, hq, rfl⟩ := VR.o r'
  obtain ⟨its, nn, m1, hv⟩ := A4.list hk ((e2.trans (e3.trans e4)).at hq)
  have hln := hv.length
  refine tail_any (T := "list") ⟨_, A4.N.get m1, rfl⟩ slot_list_getitem.lookup ?_ rfl
  refine wpAny_getItem_list_slice (s := { s with heap := h3'.push _, toks := t3 }) (items := its.toArray) ⟨_, A4.N.get m1, rfl, nn, rfl⟩ ⟨_, A4.N.get (.head _), rfl, rfl⟩ r2 r3 .none (by intro z; cases z) ?_ ?_
  · have fk5 := fresh_key A4
    have hp : (slicePick its.toArray i j Option.none) = (((sliceRange (sliceBounds i j Option.none l.length).1 (sliceBounds i j Option.none l.length).2.1 (sliceBounds i j Option.none l.length).2.2).filterMap (its[·]?))).toArray := by
      unfold slicePick
      rw [List.size_toArray, hln]
      congr 1
      congr 1
      funext z
      simp
    rw [hp]
    have A5 := A4.more (o := lstO ((sliceRange (sliceBounds i j Option.none l.length).1 (sliceBounds i j Option.none l.length).2.1 (sliceBounds i j Option.none l.length).2.2).filterMap (its[·]?)) 0) rfl
    exact h _ _ _ _ A5 ((e'.trans (e2.trans (e3.trans e4))).trans (LW.more_ext fk5)) (.fl (.head _) (LW.more_off A4.ok fk5) ((hv.pick _).mono (LW.more_ext fk5)))
  · rw [List.size_toArray, ← hln]
    exact Nat.le_trans hl (by unfold sizeLine; decide)
end
end
section
open PySem PySem.W PyProof.Rows PySem.Calls PySem.Spec
theorem set_self {α : Type} : ∀ {l : List α} {k : Nat} {x : α}, l[k]? = some x → l.set k x = l
  | [], _, _, h => by simp at h
  | a :: l, 0, x, h => by
    simp only [List.getElem?_cons_zero, Option.some.injEq] at h
    rw [h]; rfl
  | a :: l, k + 1, x, h => by
    simp only [List.getElem?_cons_succ] at h
    show a :: l.set k x = a :: l
    rw [set_self h]
theorem VRs.snoc {K : KP} {x : LW} {l : List AV} : ∀ {v : AV} {us : List Value}, VRs K x (l ++ [v]) us → ∃ us' u, us = us' ++ [u] ∧ VRs K x l us' ∧ VR K x v u := by
  induction l with
  | nil =>
    intro v us h
    obtain ⟨u, t, rfl, r, h⟩ := h.cc
    rw [h.zz]
    exact ⟨[], u, rfl, .nil, r⟩
  | cons a l ih =>
    intro v us h
    obtain ⟨w, t, rfl, r, h⟩ := h.cc
    obtain ⟨us', u, rfl, a1, a2⟩ := ih h
    exact ⟨w :: us', u, rfl, .cons r a1, a2⟩
theorem kl_last_snoc : ∀ (p : List Value) (y : Value), kl_last (p ++ [y]) = some (p, y)
  | [], y => rfl
  | a :: p, y => by
    show kl_last (a :: (p ++ [y])) = _
    unfold kl_last
    rw [kl_last_snoc p y]
theorem keep_all {α : Type} {p : Nat → Bool} : ∀ {l : List α} {i : Nat}, (∀ k, k < i + l.length → p k = false) → (l.zipIdx i).filterMap (fun q => if p q.2 = true then none else some q.1) = l
  | [], _, _ => rfl
  | a :: l, i, h => by
    rw [List.zipIdx_cons, List.filterMap_cons]
    have : p i = false := h i (by rw [List.length_cons]; omega)
    simp only [this, Bool.false_eq_true, if_false]
    rw [keep_all fun k hk => h k (by rw [List.length_cons]; omega)]
noncomputable def delG (n : Int) (k : Nat) : Bool := if (1 : Int) > 0 then decide (n ≤ (k : Int)) && decide ((k : Int) < n) && ((k : Int) - n) % 1 == 0 else decide (n < (k : Int)) && decide ((k : Int) ≤ n) && (n - (k : Int)) % (-1) == 0
noncomputable def delF (n : Int) (xs : Array Value) : Array Value := (xs.toList.zipIdx.filterMap fun q : Value × Nat => if delG n q.2 = true then Option.none else some q.1).toArray
theorem delF_id {n : Int} {its : List Value} (h : n = (its.length : Int)) : delF n its.toArray = its.toArray := by
  unfold delF
  have := keep_all (p := delG n) (l := its) (i := 0) (by
    intro k hk
    have : ¬ (n ≤ (k : Int)) := by omega
    unfold delG
    simp [this])
  rw [List.toList_toArray, this]
section
variable {W : Wd} {b : Bool} {d : Nat} {sc : Scope} {fr fr' fr₁ fr₂ : Fr2} {H H' H₁ H₂ H₃ : Hp} {v v' : AV} {e e' : PySem.Expr} {p : Pos} {fl : Fl}
theorem Ev.pop {o : PySem.Expr} {ap : Pos} {k : Nat} {l : List AV} (h1 : Ev W b d sc o fr H (.obj k) H₁) (hk : H₁[k]? = some (.list (l ++ [v]))) (hl : l.length ≤ 100000)
    (hc : ∀ env, ∃ pl, eval (.Call (.Attribute o "pop" ap) [] [] p) env = (do
      let ov ← eval o env
      standAt ap.atName
      let (f, first) ← holding [ov] (getMethod ov "pop" pl)
      callWith p f first (backTo p (starEach [] env)) (backToKw p (keywordEach [] env)))) :
    Ev W b d sc (.Call (.Attribute o "pop" ap) [] [] p) fr H v (H₁.set k (.list l)) := by
  intro c O s m x A F Q E h
  obtain ⟨pl, hev⟩ := hc (c.env sc)
  refine methodCall_KW (pl := pl) (h1 c O s m x A F _ _ fun u h' t' x' A' e' r' => ?_) hev
  obtain ⟨_, hq, rfl⟩ := VR.o r'
  rename_i q
  obtain ⟨its, nn, m1, hv⟩ := A'.list hk hq
  obtain ⟨us, y, rfl, hv', ry⟩ := hv.snoc
  refine kl_method (s := { s with heap := h', toks := t' }) (its := (us ++ [y]).toArray) A'.N m1 PySem.F.slot_list_pop PySem.F.type_list_pop ?_
  refine callWith_of (P := fun _ => True) rfl (fun _ _ => ⟨_, .inr (.inl rfl), looks_machine⟩) ?_
  refine evalArgs_nil3 ⟨trivial, ?_⟩
  have hown : q.1 ∈ x'.own := A'.owned hk hq (.head _)
  have hln := hv'.length
  refine kl_pop (s := { s with heap := h', toks := t' }) (its := (us ++ [y]).toArray) (p := us) A'.F A'.N (kl_last_snoc _ _) (upd_setAt A'.ok.keys m1) ?_ fun h3 F3 N3 => ?_
  · show (us ++ [y]).length ≤ sizeLine
    rw [List.length_append, ← hln]
    exact Nat.le_trans (Nat.add_le_add_right hl 1) (by unfold sizeLine; decide)
  · have ex : ∀ o', Ext x' (x'.put q.1 o') := fun o' => LW.put_ext hown
    exact h y h3 t' (x'.put q.1 (lstO us (nn + 1))) (A'.put' F3 N3 hk hq (.head _) (O' := .list l) trivial ⟨us, nn + 1, mem_setAt_self m1, hv'.mono (ex _)⟩) (e'.trans (ex _)) (ry.mono (ex _))
theorem Ex.delTail {o : PySem.Expr} {sp dp : Pos} {k : Nat} {l : List AV} {n : Int} (h1 : Ev W b d sc o fr H (.obj k) H₁) (h2 : Ev W b d sc e fr H₁ (.int n) H₂) (hk : H₂[k]? = some (.list l)) (hn : n = (l.length : Int)) (hl : l.length ≤ 100000) :
    Ex W b d sc (.Delete [.Subscript o (.Slice (some e) Option.none Option.none sp) dp] p) fr H .next fr H₂ := by
  intro c O s m x A F Q E h
  refine wpAny_Delete (wpAny_deleteEach_cons ?_)
  rw [arm_delete_Subscript]
  refine wpAny_bind (h1 c O s m x A F _ _ fun u h' t' x' A' e' r' => ?_)
  refine wpAny_bind (wpAny_holding ?_)
  refine wpAny_Slice ?_
  rw [evalPart_some]
  refine h2 c O _ m x' A' (F.mono e') _ _ fun u2 h2' t2 x2 A2 e2 r2 => ?_
  rw [evalPart_none]
  refine wpAny_pure (wpAny_pure ?_)
  refine wpAny_bind (wpAny_standAt ?_)
  obtain ⟨tk, rfl⟩ := VR.i r2
  have fk := fresh_key A2
  have A4 := A2.more (o := { cls := .type "slice", data := .fields #[.int n tk, .none, .none] }) rfl
  have e4 := LW.more_ext (x := x2) (o := { cls := .type "slice", data := .fields #[.int n tk, .none, .none] }) fk
  obtain ⟨_, hq, rfl⟩ := VR.o r'
  rename_i q
  have hq4 := (e2.trans e4).at hq
  obtain ⟨its, nn, m1, hv⟩ := A4.list hk hq4
  have hln := hv.length
  have hL : Shared.TypeIs { s with heap := h2'.push { cls := .type "slice", data := .fields #[.int n tk, .none, .none] }, toks := t2 } (.ref q.1) "list" := ⟨_, A4.N.get m1, rfl⟩
  have hos := A4.N.get (.head _)
  have hTs : Shared.TypeIs { s with heap := h2'.push { cls := .type "slice", data := .fields #[.int n tk, .none, .none] }, toks := t2 } (.ref h2'.objs.size) "slice" := ⟨_, hos, rfl⟩
  refine wpAny_bind (wpAny_holding ?_)
  unfold delItem
  try with_reducible refine wpAny_holding ?_
  refine wpAny_bind (wpAny_sequenceKey hL (by decide) ?_)
  refine wpAny_bind (wpAny_callSpecial?_slot (name := Str.ofString "__delitem__") hL PySem.F.slot_list_delitem
    (wpAny_call_entry PySem.F.slot_list_delitem hL PySem.F.entry_list_delitem ?_ (PySem.F.args_list_delitem_2 _ _)))
  show wpAny _ _ (Builtin.List.listSubscript? (.ref h2'.objs.size) >>= _) _ _ _
  refine wpAny_bind ?_
  unfold Builtin.List.listSubscript?
  refine wpAny_bind (wpAny_specialOf hTs slice_no_index ?_)
  simp only [Option.isNone_none, if_true]
  refine wpAny_pure ?_
  show wpAny _ _ (typeOf (.ref h2'.objs.size) >>= _) _ _ _
  refine wpAny_bind (wpAny_typeOf hTs ?_)
  rw [if_neg (by decide)]
  rw [listSliceParts_eq]
  refine wpAny_bind (wpAny_bind (wpAny_field hos rfl (x := .none) rfl (wpAny_bind (wpAny_listPart .none ?_))))
  rw [if_neg (show ¬ ((rawPart (Option.none : Option Int) == rawInt 0) = true) from Bool.false_ne_true)]
  refine wpAny_bind (wpAny_field hos rfl (x := .int n tk) rfl (wpAny_bind (wpAny_listPart (.int n tk) ?_)))
  refine wpAny_bind (wpAny_field hos rfl (x := .none) rfl (wpAny_bind (wpAny_listPart .none (wpAny_pure ?_))))
  refine wpAny_bind (m := Builtin.List.listItems (.ref q.1)) ?_
  unfold Builtin.List.listItems
  refine wpAny_bind (wpAny_seqItems (A4.N.get m1) rfl (wpAny_pure ?_))
  refine wpAny_bind (wpAny_of_eq (sliceIndices_raw (some n) Option.none Option.none its.toArray.size (by intro z; cases z)) ?_)
  have hb : sliceBounds (some n) Option.none Option.none its.toArray.size = (n, n, 1) := by
    rw [List.size_toArray, ← hln, hn]
    unfold sliceBounds
    simp
    rw [if_neg (by omega)]
    omega
  rw [hb]
  dsimp only
  refine wpAny_bind (wpAny_rule ?_)
  show wpAny _ _ (updateSeq q.1 _ >>= _) _ _ _
  have hF : delF n its.toArray = its.toArray := delF_id (hn.trans (by rw [hln]))
  refine wpAny_bind (wpAny_updateSeq (f := delF n) (A4.N.get m1) rfl ?_ ?_ ?_)
  · refine wpAny_bind (wpAny_letGo ?_)
    refine wpAny_pure ⟨_, rfl, wpAny_pure ?_⟩
    refine wpAny_release ?_
    refine wpAny_deleteEach_nil ?_
    have A5 := A4.put (O' := .list l) (q := q) (o' := lstO its nn) hk hq4 (.head _) m1 (f := Obj.mapSeq (delF n)) ?_ rfl trivial ?_
    · rw [set_self hk] at A5
      exact h .next m _ t2 _ A5 (F.mono ((e'.trans (e2.trans e4)).trans (LW.put_ext (A4.owned hk hq4 (.head _))))) ((e'.trans (e2.trans e4)).trans (LW.put_ext (A4.owned hk hq4 (.head _)))) trivial
    · show (Obj.mk _ _ (.seq (delF n its.toArray) (if (delF n its.toArray).size == its.toArray.size then nn else nn + 1)) _) = _
      rw [hF]
      simp [lstO]
    · exact ⟨its, nn, mem_setAt_self m1, hv.mono (LW.put_ext (A4.owned hk hq4 (.head _)))⟩
  · rw [List.size_toArray, ← hln]
    exact Nat.le_trans hl (by unfold sizeLine; decide)
  · rw [hF, List.size_toArray, ← hln]
    exact Nat.le_trans hl (by unfold sizeLine; decide)
theorem CmpR.isN_int {i : Int} : CmpR W .Is (.int i) .none false := by
  intro c s m H x u u' Q E X hu A r r' h
  cases r; cases r'
  exact is_int_none (h s.toks)
theorem CmpR.eqS {y z : Str} : CmpR W .Eq (.str y) (.str z) (y == z) := by
  intro c s m H x u u' Q E X hu A r r' h
  cases r; cases r'
  exact eq_str (h s.toks)
theorem Ev.notB {l : PySem.Expr} {t : Bool} (h1 : Ev W b d sc l fr H (.bool t) H₁) : Ev W b d sc (.UnaryOp .Not l p) fr H (.bool (!t)) H₁ := by
  intro c O s m x A F Q E h
  refine wpAny_UnaryOp (h1 c O s m x A F _ _ fun u h' t' x' A' e' r' => ?_)
  first | obtain rfl := VR.v r' | obtain ⟨_, rfl⟩ := VR.i r' | obtain rfl := VR.t r' | obtain rfl := VR.n r' | obtain ⟨_, rfl⟩ := VR.s r' | cases r'
  exact not_value (wpAny_truthy_bool (h _ h' t' x' A' e' (.bool _)))
theorem tup2 {c : Cx} {m : Str → Option Value} {h : Heap} {x : LW} {i j : Int} {u : Value} (A : At W c m H h x) (X : W.K.In c.h₀) (r : VR W.kp x (.tup [.int i, .int j]) u) : ∃ a t1 t2 n, u = .ref a ∧ h.get? a = some (tupO [.int i t1, .int j t2] n) := by
  have k : ∃ its a n, u = .ref a ∧ VRs W.kp x [.int i, .int j] its ∧ h.get? a = some (tupO its n) := by
    cases r with
    | tup m1 m2 hv => exact ⟨_, _, _, rfl, hv, A.N.get m1⟩
    | ktup m1 hv => exact ⟨_, _, _, rfl, hv, A.F.keep _ _ (X _ _ m1)⟩
  obtain ⟨its, a, n, rfl, hv, g⟩ := k
  obtain ⟨u1, _, rfl, r1, hv⟩ := hv.cc
  obtain ⟨u2, _, rfl, r2, hv⟩ := hv.cc
  obtain rfl := hv.zz
  obtain ⟨t1, rfl⟩ := r1.i
  obtain ⟨t2, rfl⟩ := r2.i
  exact ⟨a, t1, t2, n, rfl, g⟩
noncomputable def pe (a b : Bool) : Nat → Bool
  | 0 => a
  | _ => b
theorem pe_all (a b : Bool) : ((List.range (min 2 2)).all (pe a b) && (2 : Nat) == 2) = (a && b) := by cases a <;> cases b <;> rfl
theorem CmpR.eqT {i j i' j' : Int} : CmpR W .Eq (.tup [.int i, .int j]) (.tup [.int i', .int j']) (i == i' && j == j') := by
  intro c s m H x u u' Q E X hu A r r' h
  obtain ⟨a, t1, t2, n, rfl, g⟩ := tup2 A X r
  obtain ⟨a', t1', t2', n', rfl, g'⟩ := tup2 A X r'
  refine PySem.SeqAt.eq_tupleAt (e := pe (i == i') (j == j')) ⟨_, g, rfl, n, rfl⟩ ⟨_, g', rfl, n', rfl⟩ (by show c.A.units < 9900; omega) ?_ ?_
  · intro z h1 h2
    match z, h1, h2 with
    | 0, _, _ => exact PySem.SeqAt.EqAt.int_int _ _ _ _
    | 1, _, _ => exact PySem.SeqAt.EqAt.int_int _ _ _ _
  · show Q (.bool ((List.range (min 2 2)).all (pe (i == i') (j == j')) && (2 : Nat) == 2)) s
    rw [pe_all]
    exact h s.toks
end
end
section
open PySem PySem.W PyProof.Rows PySem.Calls PySem.Spec
section
variable {α : Type} [DecidableEq α] {K : KP} {x : LW}
theorem KvR.get {k : α} {v : AV} {l : List (α × AV)} : ∀ {us : List (α × Value)}, KvR K x l us → (us.map (·.1)).Nodup → (k, v) ∈ l → ∃ u, valueAt us k = some u ∧ VR K x v u := by
  induction l with
  | nil => intro us r nd h; cases h
  | cons f l ih =>
    intro us r nd h
    cases us with
    | nil => exact r.elim
    | cons e us =>
    obtain ⟨a, b, c⟩ := r
    rw [List.map_cons, List.nodup_cons] at nd
    rcases List.mem_cons.mp h with q | h
    · subst q
      refine ⟨e.2, ?_, b⟩
      unfold valueAt
      rw [List.find?_cons]
      have : decide (e.1 = k) = true := decide_eq_true a.symm
      rw [this]; rfl
    · obtain ⟨u, g, r⟩ := ih c nd.2 h
      refine ⟨u, ?_, r⟩
      have ne : e.1 ≠ k := by
        intro q
        refine nd.1 ?_
        unfold valueAt at g
        cases hf : us.find? (fun kv => decide (kv.1 = k)) with
        | none => rw [hf] at g; cases g
        | some kv =>
          have h1 := List.mem_of_find?_eq_some hf
          have h2 := List.find?_some hf
          have h2 : kv.1 = k := of_decide_eq_true h2
          rw [q, ← h2]
          exact List.mem_map_of_mem h1
      unfold valueAt at g ⊢
      rw [List.find?_cons, decide_eq_false ne]
      exact g
noncomputable def storedV (l : List (α × AV)) (k : α) (v : AV) : List (α × AV) := if l.any (fun kv => kv.1 = k) then l.map (fun kv => if kv.1 = k then (kv.1, v) else kv) else l ++ [(k, v)]
theorem KvR.any (k : α) {l : List (α × AV)} : ∀ {us : List (α × Value)}, KvR K x l us → l.any (fun kv => decide (kv.1 = k)) = us.any (fun kv => decide (kv.1 = k)) := by
  induction l with
  | nil => intro us r; cases us with | nil => rfl | cons _ _ => exact r.elim
  | cons f l ih => intro us r; cases us with | nil => exact r.elim | cons e us => rw [List.any_cons, List.any_cons, r.1, ih r.2.2]
theorem KvR.map (k : α) {v : AV} {u : Value} (r : VR K x v u) {l : List (α × AV)} : ∀ {us : List (α × Value)}, KvR K x l us → KvR K x (l.map (fun kv => if kv.1 = k then (kv.1, v) else kv)) (us.map (fun kv => if kv.1 = k then (kv.1, u) else kv)) := by
  induction l with
  | nil => intro us h; cases us with | nil => exact h | cons _ _ => exact h.elim
  | cons f l ih =>
    intro us h
    cases us with
    | nil => exact h.elim
    | cons e us =>
    obtain ⟨a, b, c⟩ := h
    refine ⟨?_, ?_, ih c⟩
    · dsimp only
      rw [← a]
      split
      · rfl
      · exact a
    · dsimp only
      rw [← a]
      split
      · exact r
      · exact b
theorem KvR.snoc (k : α) {v : AV} {u : Value} (r : VR K x v u) {l : List (α × AV)} : ∀ {us : List (α × Value)}, KvR K x l us → KvR K x (l ++ [(k, v)]) (us ++ [(k, u)]) := by
  induction l with
  | nil => intro us h; cases us with | nil => exact ⟨rfl, r, trivial⟩ | cons _ _ => exact h.elim
  | cons f l ih => intro us h; cases us with | nil => exact h.elim | cons e us => exact ⟨h.1, h.2.1, ih h.2.2⟩
theorem KvR.stored (k : α) {v : AV} {u : Value} (r : VR K x v u) {l : List (α × AV)} {us : List (α × Value)} (h : KvR K x l us) : KvR K x (storedV l k v) (PySem.stored us k u) := by
  unfold storedV PySem.stored
  rw [h.any k]
  split
  · exact h.map k r
  · exact h.snoc k r
end
section
variable {W : Wd} {b : Bool} {d : Nat} {sc : Scope} {fr fr' fr₁ fr₂ : Fr2} {H H' H₁ H₂ H₃ : Hp} {v v' : AV} {e e' : PySem.Expr} {p : Pos} {fl : Fl}
theorem Ev.dget {o : PySem.Expr} {ap : Pos} {k : Nat} {l : List (Int × AV)} {i : Int} (h1 : Ev W b d sc o fr H (.obj k) H₁) (h2 : Ev W b d sc e fr H₁ (.int i) H₂) (hk1 : H₁[k]? = some (.idict l)) (hk : H₂[k]? = some (.idict l)) (hm : (i, v) ∈ l)
    (hst : ∀ env, starEach [e] env = [(false, eval e env)])
    (hc : ∀ env, ∃ pl, eval (.Call (.Attribute o "get" ap) [e] [] p) env = (do
      let ov ← eval o env
      standAt ap.atName
      let (f, first) ← holding [ov] (getMethod ov "get" pl)
      callWith p f first (backTo p (starEach [e] env)) (backToKw p (keywordEach [] env)))) :
    Ev W b d sc (.Call (.Attribute o "get" ap) [e] [] p) fr H v H₂ := by
  intro c O s m x A F Q E h
  obtain ⟨pl, hev⟩ := hc (c.env sc)
  refine methodCall_KW (pl := pl) (h1 c O s m x A F _ _ fun u h' t' x' A' e' r' => ?_) hev
  obtain ⟨_, hq, rfl⟩ := VR.o r'
  rename_i q
  obtain ⟨od, us, lo, m1, hd, hv⟩ := A'.ok.objs k _ q hk1 hq
  refine kdg_method (knd := PySem.intKind W.prog W.w) (s := { s with heap := h', toks := t' }) A'.N m1 hd ?_
  refine callWith_of (P := fun _ => True) (by rw [hst]; rfl) (fun _ _ => ⟨_, .inr (.inl rfl), looks_machine⟩) ?_
  rw [hst]
  refine evalArgs_plain (Calls.spliced_cons ?_)
  refine h2 c O _ m x' A' (F.mono e') _ _ fun u2 h2' t2 x2 A2 e2 r2 => ?_
  refine Calls.spliced_nil ⟨trivial, ?_⟩
  first | obtain rfl := VR.v r2 | obtain ⟨_, rfl⟩ := VR.i r2 | obtain rfl := VR.t r2 | obtain rfl := VR.n r2 | obtain ⟨_, rfl⟩ := VR.s r2 | cases r2
  obtain ⟨od2, us2, lo2, m2, hd2, hv2⟩ := A2.ok.objs k _ q hk (e2.at hq)
  obtain ⟨u, hu, ru⟩ := hv2.get (by obtain ⟨_, _, _, _, _, _, hnd⟩ := hd2; exact hnd) hm
  exact kdg_get1 (s := { s with heap := h2', toks := t2 }) (knd := PySem.intKind W.prog W.w) A2.N m2 hd2 lo2 (intKind_is _ _ _ _) (some u) hu (h u h2' (t2 + 1) x2 A2 (e'.trans e2) ru)
theorem Ev.sitem {i : PySem.Expr} {k : Nat} {l : List (Str × AV)} {n : Str} (h1 : Ev W b d sc e fr H (.obj k) H₁) (h2 : Ev W b d sc i fr H₁ (.str n) H₂) (hk : H₂[k]? = some (.sdict l)) (hm : (n, v) ∈ l)
    (hs : ∀ a n t, subscripted i false (.ref a) (.str n t) = operate [.ref a, .str n t] (getItem (.ref a) (.str n t))) : Ev W b d sc (.Subscript e i p) fr H v H₂ := by
  intro c O s m x A F Q E h
  refine Subscript_ (h1 c O s m x A F _ _ fun u h' t' x' A' e' r' => ?_)
  refine h2 c O _ m x' A' (F.mono e') _ _ fun u2 h2' t2 x2 A2 e2 r2 => ?_
  obtain ⟨tk, rfl⟩ := VR.s r2
  obtain ⟨_, hq, rfl⟩ := VR.o r'
  rename_i q
  obtain ⟨od2, us2, lo2, m2, hd2, hv2⟩ := A2.ok.objs k _ q hk (e2.at hq)
  obtain ⟨u, hu, ru⟩ := hv2.get (by obtain ⟨_, _, _, _, _, _, hnd⟩ := hd2; exact hnd) hm
  exact kdt_tail (s := { s with heap := h2', toks := t2 }) (knd := PySem.strKind W.prog W.w) A2.N m2 hd2 (kdt_getItem (knd := PySem.strKind W.prog W.w) A2.N m2 hd2 (strKind_is _ _ _ _) hu (h u h2' (t2 + 1) x2 A2 (e'.trans e2) ru)) (hs _ _ _)
theorem Ev.lenF1 {f : Str} {np : Pos} {a : AV} (h0 : Ev W b d sc (.Name f np) fr H (.val (.builtin "len")) H) (h1 : Ev W b d sc e fr H (.fl [a]) H₁) (hst : ∀ env, starEach [e] env = [(false, eval e env)]) :
    Ev W b d sc (.Call (.Name f np) [e] [] p) fr H (.int 1) H₁ := by
  intro c O s m x A F Q E h
  refine wpAny_Call_ofName (h0 c O s m x A F _ _ fun u h' t' x' A' e' r' => ?_)
  first | obtain rfl := VR.v r' | obtain ⟨_, rfl⟩ := VR.i r' | obtain rfl := VR.t r' | obtain rfl := VR.n r' | obtain ⟨_, rfl⟩ := VR.s r' | cases r'
  refine callWith_of (P := fun _ => True) (by rw [hst]; rfl) (fun _ _ => ⟨_, .inr (.inl rfl), looks_machine⟩) ?_
  rw [hst]
  refine evalArgs_plain (Calls.spliced_cons ?_)
  refine h1 c O _ m x' A' (F.mono e') _ _ fun u2 h2' t2 x2 A2 e2 r2 => ?_
  refine Calls.spliced_nil ⟨trivial, ?_⟩
  obtain ⟨_, _, _, m1, m2, hv, rfl⟩ := VR.f r2
  rename_i its ad nn
  have hln := hv.length
  refine len_list (s := { s with heap := h2', toks := t2 }) (items := its.toArray) ⟨_, A2.N.get m1, rfl, nn, rfl⟩ (by rw [List.size_toArray, ← hln]; show ((1 : Nat) : Int) < 2 ^ 63; decide) ?_
  rw [List.size_toArray, ← hln]
  exact h _ _ _ x2 A2 (e'.trans e2) (.int _ _)
theorem Ev.callSub {o i : PySem.Expr} {np : Pos} {fa : Addr} {es : List PySem.Expr} {vs : List AV} (h0 : Ev W b (d + 1) sc (.Subscript o i np) fr H (.val (.ref fa)) H₁) (h1 : Evs W b (d + 1) sc (e :: es) fr H₁ vs H₂) (hk : keepIn W.K (.ref fa) = true)
    (hst : ∀ env, starEach (e :: es) env = (false, eval e env) :: starEach es env) (hp : ∀ pos env, (backTo pos (starEach es env)).any (·.1) = false) (h2 : Cl W b (d + 1) fa vs H₂ v H₃) : Ev W b (d + 1) sc (.Call (.Subscript o i np) (e :: es) [] p) fr H v H₃ := by
  intro c O s m x A F Q E h
  show wpAny _ _ (do callWith p (← eval (.Subscript o i np) _) [] (backTo p (starEach (e :: es) _)) (backToKw p (keywordEach [] _))) _ _ _
  refine wpAny_bind (h0 c O s m x A F _ _ fun u h' t' x' A' e' r' => ?_)
  first | obtain rfl := VR.v r' | obtain ⟨_, rfl⟩ := VR.i r' | obtain rfl := VR.t r' | obtain rfl := VR.n r' | obtain ⟨_, rfl⟩ := VR.s r' | cases r'
  refine callWith_K (K := W.K) (h₀ := c.h₀) O.X hk ?_ (hst _) (hp _ _)
  refine h1 c O _ m x' A' (F.mono e') _ _ _ fun us h2' t2 x2 A2 e2 r2 => ⟨O.X.keeps A2.F.keep, ?_⟩
  refine wpAny_call ?_
  exact h2 sc c O _ m x2 A2 us r2 _ fun u h3 t3 x3 A3 e3 r3 => h _ _ _ x3 A3 ((e'.trans e2).trans e3) r3
end
end
noncomputable section
open PySem PySem.W PyProof.Rows PySem.Calls
noncomputable abbrev pw : Program := PySem.Challenge.pw_sa0170_01
noncomputable def stAt (i : Nat) : PySem.Stmt := (pw.main.body[i]?).getD (.Pass ⟨0, 0, 0, 0⟩)
noncomputable def meAt (i j : Nat) : PySem.Stmt := match stAt i with
  | .ClassDef _ _ _ body _ _ _ _ _ _ _ => (body[j]?).getD (.Pass ⟨0, 0, 0, 0⟩)
  | s => s
noncomputable def fnO (st : PySem.Stmt) (qual : Str) (dV pm cdv : Value) : Obj := match st with
  | .FunctionDef name params body _ _ _ scope _ _ _ => ⟨.type "function", none, .func (fnOf name qual params body scope dV .none .none pm none cdv .none), #[]⟩
  | _ => default
noncomputable abbrev a_StepLimit___init__ : Addr := 68
noncomputable def f_StepLimit___init__ : PySem.Stmt := meAt 4 0
noncomputable abbrev a_Cells___init__ : Addr := 110
noncomputable def f_Cells___init__ : PySem.Stmt := meAt 22 0
noncomputable abbrev a_Cells_push : Addr := 117
noncomputable def f_Cells_push : PySem.Stmt := meAt 22 1
noncomputable abbrev a_Cells_new_var : Addr := 124
noncomputable def f_Cells_new_var : PySem.Stmt := meAt 22 2
noncomputable abbrev a_Cells_trim : Addr := 138
noncomputable def f_Cells_trim : PySem.Stmt := meAt 22 4
noncomputable abbrev a_Cells_deref : Addr := 145
noncomputable def f_Cells_deref : PySem.Stmt := meAt 22 5
noncomputable abbrev a_Cells_bind : Addr := 159
noncomputable def f_Cells_bind : PySem.Stmt := meAt 22 7
noncomputable abbrev a_Cells_mark : Addr := 180
noncomputable def f_Cells_mark : PySem.Stmt := meAt 22 10
noncomputable abbrev a_Cells_undo_to : Addr := 187
noncomputable def f_Cells_undo_to : PySem.Stmt := meAt 22 11
noncomputable abbrev a_Cells_stack_put : Addr := 194
noncomputable def f_Cells_stack_put : PySem.Stmt := meAt 22 12
noncomputable abbrev a_Areas___init__ : Addr := 397
noncomputable def f_Areas___init__ : PySem.Stmt := meAt 46 0
noncomputable abbrev a_Areas_reset : Addr := 404
noncomputable def f_Areas_reset : PySem.Stmt := meAt 46 1
noncomputable abbrev a_Areas_set_x : Addr := 411
noncomputable def f_Areas_set_x : PySem.Stmt := meAt 46 2
noncomputable abbrev a_Areas_set_arguments : Addr := 418
noncomputable def f_Areas_set_arguments : PySem.Stmt := meAt 46 3
noncomputable abbrev a_Areas_top : Addr := 453
noncomputable def f_Areas_top : PySem.Stmt := meAt 46 8
noncomputable abbrev a_Areas_push_environment : Addr := 460
noncomputable def f_Areas_push_environment : PySem.Stmt := meAt 46 9
noncomputable abbrev a_Areas_pop_environment : Addr := 467
noncomputable def f_Areas_pop_environment : PySem.Stmt := meAt 46 10
noncomputable abbrev a_Areas_set_choice : Addr := 481
noncomputable def f_Areas_set_choice : PySem.Stmt := meAt 46 12
noncomputable abbrev a_Areas_push_choice : Addr := 488
noncomputable def f_Areas_push_choice : PySem.Stmt := meAt 46 13
noncomputable abbrev a_Areas_set_alternative : Addr := 495
noncomputable def f_Areas_set_alternative : PySem.Stmt := meAt 46 14
noncomputable abbrev a_Areas_choice_part : Addr := 502
noncomputable def f_Areas_choice_part : PySem.Stmt := meAt 46 15
noncomputable abbrev a_Areas_restore_choice : Addr := 509
noncomputable def f_Areas_restore_choice : PySem.Stmt := meAt 46 16
noncomputable abbrev a_Areas_pop_choice : Addr := 516
noncomputable def f_Areas_pop_choice : PySem.Stmt := meAt 46 17
noncomputable abbrev a_Areas_cut_back : Addr := 523
noncomputable def f_Areas_cut_back : PySem.Stmt := meAt 46 18
noncomputable abbrev a_Areas_choices : Addr := 530
noncomputable def f_Areas_choices : PySem.Stmt := meAt 46 19
noncomputable abbrev a_slot_index : Addr := 551
noncomputable def f_slot_index : PySem.Stmt := stAt 48
noncomputable abbrev a_read : Addr := 558
noncomputable def f_read : PySem.Stmt := stAt 49
noncomputable abbrev a_write : Addr := 565
noncomputable def f_write : PySem.Stmt := stAt 50
noncomputable abbrev a_match_constant : Addr := 572
noncomputable def f_match_constant : PySem.Stmt := stAt 51
noncomputable abbrev a_get_variable : Addr := 600
noncomputable def f_get_variable : PySem.Stmt := stAt 55
noncomputable abbrev a_get_constant : Addr := 614
noncomputable def f_get_constant : PySem.Stmt := stAt 57
noncomputable abbrev a_put_value : Addr := 691
noncomputable def f_put_value : PySem.Stmt := stAt 68
noncomputable abbrev a_move_table : Addr := 761
noncomputable def f_move_table : PySem.Stmt := stAt 78
noncomputable abbrev a_do_call : Addr := 768
noncomputable def f_do_call : PySem.Stmt := stAt 80
noncomputable abbrev a_do_execute : Addr := 775
noncomputable def f_do_execute : PySem.Stmt := stAt 81
noncomputable abbrev a_do_proceed : Addr := 782
noncomputable def f_do_proceed : PySem.Stmt := stAt 82
noncomputable abbrev a_do_allocate : Addr := 789
noncomputable def f_do_allocate : PySem.Stmt := stAt 83
noncomputable abbrev a_do_deallocate : Addr := 796
noncomputable def f_do_deallocate : PySem.Stmt := stAt 84
noncomputable abbrev a_do_get_level : Addr := 810
noncomputable def f_do_get_level : PySem.Stmt := stAt 86
noncomputable abbrev a_do_cut_to : Addr := 824
noncomputable def f_do_cut_to : PySem.Stmt := stAt 88
noncomputable abbrev a_do_halt : Addr := 838
noncomputable def f_do_halt : PySem.Stmt := stAt 90
noncomputable abbrev a_do_try : Addr := 845
noncomputable def f_do_try : PySem.Stmt := stAt 91
noncomputable abbrev a_do_retry : Addr := 852
noncomputable def f_do_retry : PySem.Stmt := stAt 92
noncomputable abbrev a_do_trust : Addr := 859
noncomputable def f_do_trust : PySem.Stmt := stAt 93
noncomputable abbrev a_plain_control_table : Addr := 887
noncomputable def f_plain_control_table : PySem.Stmt := stAt 98
noncomputable abbrev a_Emulator___init__ : Addr := 902
noncomputable def f_Emulator___init__ : PySem.Stmt := meAt 99 0
noncomputable abbrev a_Emulator_clear : Addr := 909
noncomputable def f_Emulator_clear : PySem.Stmt := meAt 99 1
noncomputable abbrev a_Emulator_backtrack : Addr := 916
noncomputable def f_Emulator_backtrack : PySem.Stmt := meAt 99 2
noncomputable abbrev a_Emulator_enter : Addr := 923
noncomputable def f_Emulator_enter : PySem.Stmt := meAt 99 3
noncomputable abbrev a_Emulator_start_at : Addr := 930
noncomputable def f_Emulator_start_at : PySem.Stmt := meAt 99 4
noncomputable abbrev a_Emulator_step : Addr := 937
noncomputable def f_Emulator_step : PySem.Stmt := meAt 99 5
noncomputable abbrev a_Emulator_run : Addr := 944
noncomputable def f_Emulator_run : PySem.Stmt := meAt 99 6
noncomputable abbrev a_Emulator_redo : Addr := 951
noncomputable def f_Emulator_redo : PySem.Stmt := meAt 99 7
noncomputable abbrev a__law_digit : Addr := 963
noncomputable def f__law_digit : PySem.Stmt := stAt 101
noncomputable abbrev a__law_facts : Addr := 970
noncomputable def f__law_facts : PySem.Stmt := stAt 102
noncomputable abbrev a__law_rule : Addr := 977
noncomputable def f__law_rule : PySem.Stmt := stAt 103
noncomputable abbrev a__law_answers : Addr := 982
noncomputable def f__law_answers : PySem.Stmt := stAt 104
noncomputable abbrev a__law_stopped : Addr := 989
noncomputable def f__law_stopped : PySem.Stmt := stAt 105
noncomputable abbrev a_law : Addr := 994
noncomputable def f_law : PySem.Stmt := stAt 106
noncomputable abbrev c_ClausemillError : Addr := 31
noncomputable abbrev c_StepLimit : Addr := 71
noncomputable abbrev c_Cells : Addr := 239
noncomputable abbrev c_Store : Addr := 296
noncomputable abbrev c_Areas : Addr := 540
noncomputable abbrev c_Emulator : Addr := 954
noncomputable abbrev a_VOID : Addr := 95
noncomputable def dk_3_0 (P : Params) : List DictEntry := [{ hash := PyData.keyHash P (Str.ofString "__name__"), key := Value.str (Str.ofString "__name__") 165, val := Value.str (Str.ofString "law_sa0170_01") 1478 }, { hash := PyData.keyHash P (Str.ofString "__doc__"), key := Value.str (Str.ofString "__doc__") 166, val := Value.none }, { hash := PyData.keyHash P (Str.ofString "__package__"), key := Value.str (Str.ofString "__package__") 167, val := Value.none }, { hash := PyData.keyHash P (Str.ofString "__loader__"), key := Value.str (Str.ofString "__loader__") 168, val := Value.builtin "__main__.__loader__#opaque" }, { hash := PyData.keyHash P (Str.ofString "__spec__"), key := Value.str (Str.ofString "__spec__") 169, val := Value.none }, { hash := PyData.keyHash P (Str.ofString "__annotations__"), key := Value.str (Str.ofString "__annotations__") 170, val := Value.ref 6 }, { hash := PyData.keyHash P (Str.ofString "__builtins__"), key := Value.str (Str.ofString "__builtins__") 171, val := Value.ref 4 }, { hash := PyData.keyHash P (Str.ofString "__file__"), key := Value.str (Str.ofString "__file__") 173, val := Value.str (Str.ofString "/claim/cut.py") 172 }]
noncomputable def dk_3_1 (P : Params) : List DictEntry := [{ hash := PyData.keyHash P (Str.ofString "__cached__"), key := Value.str (Str.ofString "__cached__") 174, val := Value.none }, { hash := PyData.keyHash P (Str.ofString "_wall"), key := Value.str (Str.ofString "_wall") 193, val := Value.ref 21 }, { hash := PyData.keyHash P (Str.ofString "ClausemillError"), key := Value.str (Str.ofString "ClausemillError") 215, val := Value.ref 31 }, { hash := PyData.keyHash P (Str.ofString "PrologError"), key := Value.str (Str.ofString "PrologError") 240, val := Value.ref 51 }, { hash := PyData.keyHash P (Str.ofString "StepLimit"), key := Value.str (Str.ofString "StepLimit") 266, val := Value.ref 71 }, { hash := PyData.keyHash P (Str.ofString "A_SYSTEM"), key := Value.str (Str.ofString "A_SYSTEM") 268, val := Value.int 25 267 }, { hash := PyData.keyHash P (Str.ofString "F_DOT"), key := Value.str (Str.ofString "F_DOT") 270, val := Value.int 0 269 }, { hash := PyData.keyHash P (Str.ofString "F_ERROR"), key := Value.str (Str.ofString "F_ERROR") 272, val := Value.int 16 271 }]
noncomputable def dk_3_2 (P : Params) : List DictEntry := [{ hash := PyData.keyHash P (Str.ofString "HALT_ADDRESS"), key := Value.str (Str.ofString "HALT_ADDRESS") 274, val := Value.int 1 273 }, { hash := PyData.keyHash P (Str.ofString "system_error"), key := Value.str (Str.ofString "system_error") 283, val := Value.ref 80 }, { hash := PyData.keyHash P (Str.ofString "formal_of"), key := Value.str (Str.ofString "formal_of") 294, val := Value.ref 87 }, { hash := PyData.keyHash P (Str.ofString "resource_error"), key := Value.str (Str.ofString "resource_error") 302, val := Value.ref 94 }, { hash := PyData.keyHash P (Str.ofString "REF"), key := Value.str (Str.ofString "REF") 306, val := Value.int 0 305 }, { hash := PyData.keyHash P (Str.ofString "SRF"), key := Value.str (Str.ofString "SRF") 308, val := Value.int 1 307 }, { hash := PyData.keyHash P (Str.ofString "STR"), key := Value.str (Str.ofString "STR") 310, val := Value.int 2 309 }, { hash := PyData.keyHash P (Str.ofString "LIS"), key := Value.str (Str.ofString "LIS") 312, val := Value.int 3 311 }]
noncomputable def dk_3_3 (P : Params) : List DictEntry := [{ hash := PyData.keyHash P (Str.ofString "CON"), key := Value.str (Str.ofString "CON") 314, val := Value.int 4 313 }, { hash := PyData.keyHash P (Str.ofString "INT"), key := Value.str (Str.ofString "INT") 316, val := Value.int 5 315 }, { hash := PyData.keyHash P (Str.ofString "FUN"), key := Value.str (Str.ofString "FUN") 318, val := Value.int 6 317 }, { hash := PyData.keyHash P (Str.ofString "VOID"), key := Value.str (Str.ofString "VOID") 320, val := Value.ref 95 }, { hash := PyData.keyHash P (Str.ofString "Cells"), key := Value.str (Str.ofString "Cells") 514, val := Value.ref 239 }, { hash := PyData.keyHash P (Str.ofString "Store"), key := Value.str (Str.ofString "Store") 583, val := Value.ref 296 }, { hash := PyData.keyHash P (Str.ofString "PairSet"), key := Value.str (Str.ofString "PairSet") 625, val := Value.ref 322 }, { hash := PyData.keyHash P (Str.ofString "push_arguments"), key := Value.str (Str.ofString "push_arguments") 636, val := Value.ref 333 }]
noncomputable def dk_3_4 (P : Params) : List DictEntry := [{ hash := PyData.keyHash P (Str.ofString "push_pairs"), key := Value.str (Str.ofString "push_pairs") 649, val := Value.ref 340 }, { hash := PyData.keyHash P (Str.ofString "same_shape"), key := Value.str (Str.ofString "same_shape") 658, val := Value.ref 347 }, { hash := PyData.keyHash P (Str.ofString "is_variable"), key := Value.str (Str.ofString "is_variable") 665, val := Value.ref 354 }, { hash := PyData.keyHash P (Str.ofString "unify"), key := Value.str (Str.ofString "unify") 679, val := Value.ref 361 }, { hash := PyData.keyHash P (Str.ofString "unify_unify"), key := Value.str (Str.ofString "unify_unify") 680, val := Value.ref 361 }, { hash := PyData.keyHash P (Str.ofString "bind_checked"), key := Value.str (Str.ofString "bind_checked") 690, val := Value.ref 368 }, { hash := PyData.keyHash P (Str.ofString "occurs_in"), key := Value.str (Str.ofString "occurs_in") 701, val := Value.ref 375 }, { hash := PyData.keyHash P (Str.ofString "reaches"), key := Value.str (Str.ofString "reaches") 712, val := Value.ref 382 }]
noncomputable def dk_3_5 (P : Params) : List DictEntry := [{ hash := PyData.keyHash P (Str.ofString "READ"), key := Value.str (Str.ofString "READ") 716, val := Value.str (Str.ofString "read") 715 }, { hash := PyData.keyHash P (Str.ofString "WRITE"), key := Value.str (Str.ofString "WRITE") 718, val := Value.str (Str.ofString "write") 717 }, { hash := PyData.keyHash P (Str.ofString "AT_E"), key := Value.str (Str.ofString "AT_E") 720, val := Value.int 1 719 }, { hash := PyData.keyHash P (Str.ofString "AT_CP"), key := Value.str (Str.ofString "AT_CP") 722, val := Value.int 2 721 }, { hash := PyData.keyHash P (Str.ofString "AT_PREVIOUS"), key := Value.str (Str.ofString "AT_PREVIOUS") 724, val := Value.int 3 723 }, { hash := PyData.keyHash P (Str.ofString "AT_ALTERNATIVE"), key := Value.str (Str.ofString "AT_ALTERNATIVE") 726, val := Value.int 4 725 }, { hash := PyData.keyHash P (Str.ofString "AT_TRAIL"), key := Value.str (Str.ofString "AT_TRAIL") 728, val := Value.int 5 727 }, { hash := PyData.keyHash P (Str.ofString "AT_HEAP"), key := Value.str (Str.ofString "AT_HEAP") 730, val := Value.int 6 729 }]
noncomputable def dk_3_6 (P : Params) : List DictEntry := [{ hash := PyData.keyHash P (Str.ofString "AT_B0"), key := Value.str (Str.ofString "AT_B0") 732, val := Value.int 7 731 }, { hash := PyData.keyHash P (Str.ofString "EXTRA"), key := Value.str (Str.ofString "EXTRA") 734, val := Value.int 8 733 }, { hash := PyData.keyHash P (Str.ofString "Areas"), key := Value.str (Str.ofString "Areas") 962, val := Value.ref 540 }, { hash := PyData.keyHash P (Str.ofString "slot_index"), key := Value.str (Str.ofString "slot_index") 972, val := Value.ref 551 }, { hash := PyData.keyHash P (Str.ofString "read"), key := Value.str (Str.ofString "read") 980, val := Value.ref 558 }, { hash := PyData.keyHash P (Str.ofString "write"), key := Value.str (Str.ofString "write") 990, val := Value.ref 565 }, { hash := PyData.keyHash P (Str.ofString "match_constant"), key := Value.str (Str.ofString "match_constant") 1000, val := Value.ref 572 }, { hash := PyData.keyHash P (Str.ofString "next_argument"), key := Value.str (Str.ofString "next_argument") 1008, val := Value.ref 579 }]
noncomputable def dk_3_7 (P : Params) : List DictEntry := [{ hash := PyData.keyHash P (Str.ofString "closes_cycle"), key := Value.str (Str.ofString "closes_cycle") 1016, val := Value.ref 586 }, { hash := PyData.keyHash P (Str.ofString "push_local"), key := Value.str (Str.ofString "push_local") 1026, val := Value.ref 593 }, { hash := PyData.keyHash P (Str.ofString "get_variable"), key := Value.str (Str.ofString "get_variable") 1034, val := Value.ref 600 }, { hash := PyData.keyHash P (Str.ofString "get_value"), key := Value.str (Str.ofString "get_value") 1042, val := Value.ref 607 }, { hash := PyData.keyHash P (Str.ofString "get_constant"), key := Value.str (Str.ofString "get_constant") 1050, val := Value.ref 614 }, { hash := PyData.keyHash P (Str.ofString "get_list"), key := Value.str (Str.ofString "get_list") 1061, val := Value.ref 621 }, { hash := PyData.keyHash P (Str.ofString "get_structure"), key := Value.str (Str.ofString "get_structure") 1073, val := Value.ref 628 }, { hash := PyData.keyHash P (Str.ofString "unify_variable"), key := Value.str (Str.ofString "unify_variable") 1081, val := Value.ref 635 }]
noncomputable def dk_3_8 (P : Params) : List DictEntry := [{ hash := PyData.keyHash P (Str.ofString "unify_value"), key := Value.str (Str.ofString "unify_value") 1090, val := Value.ref 642 }, { hash := PyData.keyHash P (Str.ofString "unify_local_value"), key := Value.str (Str.ofString "unify_local_value") 1100, val := Value.ref 649 }, { hash := PyData.keyHash P (Str.ofString "unify_constant"), key := Value.str (Str.ofString "unify_constant") 1108, val := Value.ref 656 }, { hash := PyData.keyHash P (Str.ofString "unify_void"), key := Value.str (Str.ofString "unify_void") 1116, val := Value.ref 663 }, { hash := PyData.keyHash P (Str.ofString "push_variables"), key := Value.str (Str.ofString "push_variables") 1125, val := Value.ref 670 }, { hash := PyData.keyHash P (Str.ofString "put_variable"), key := Value.str (Str.ofString "put_variable") 1135, val := Value.ref 677 }, { hash := PyData.keyHash P (Str.ofString "put_void"), key := Value.str (Str.ofString "put_void") 1143, val := Value.ref 684 }, { hash := PyData.keyHash P (Str.ofString "put_value"), key := Value.str (Str.ofString "put_value") 1151, val := Value.ref 691 }]
noncomputable def dk_3_9 (P : Params) : List DictEntry := [{ hash := PyData.keyHash P (Str.ofString "put_unsafe_value"), key := Value.str (Str.ofString "put_unsafe_value") 1159, val := Value.ref 698 }, { hash := PyData.keyHash P (Str.ofString "put_constant"), key := Value.str (Str.ofString "put_constant") 1167, val := Value.ref 705 }, { hash := PyData.keyHash P (Str.ofString "put_list"), key := Value.str (Str.ofString "put_list") 1175, val := Value.ref 712 }, { hash := PyData.keyHash P (Str.ofString "put_structure"), key := Value.str (Str.ofString "put_structure") 1184, val := Value.ref 719 }, { hash := PyData.keyHash P (Str.ofString "set_variable"), key := Value.str (Str.ofString "set_variable") 1192, val := Value.ref 726 }, { hash := PyData.keyHash P (Str.ofString "set_value"), key := Value.str (Str.ofString "set_value") 1200, val := Value.ref 733 }, { hash := PyData.keyHash P (Str.ofString "set_local_value"), key := Value.str (Str.ofString "set_local_value") 1208, val := Value.ref 740 }, { hash := PyData.keyHash P (Str.ofString "set_constant"), key := Value.str (Str.ofString "set_constant") 1216, val := Value.ref 747 }]
noncomputable def dk_3_10 (P : Params) : List DictEntry := [{ hash := PyData.keyHash P (Str.ofString "set_void"), key := Value.str (Str.ofString "set_void") 1224, val := Value.ref 754 }, { hash := PyData.keyHash P (Str.ofString "move_table"), key := Value.str (Str.ofString "move_table") 1230, val := Value.ref 761 }, { hash := PyData.keyHash P (Str.ofString "do_call"), key := Value.str (Str.ofString "do_call") 1240, val := Value.ref 768 }, { hash := PyData.keyHash P (Str.ofString "do_execute"), key := Value.str (Str.ofString "do_execute") 1248, val := Value.ref 775 }, { hash := PyData.keyHash P (Str.ofString "do_proceed"), key := Value.str (Str.ofString "do_proceed") 1256, val := Value.ref 782 }, { hash := PyData.keyHash P (Str.ofString "do_allocate"), key := Value.str (Str.ofString "do_allocate") 1264, val := Value.ref 789 }, { hash := PyData.keyHash P (Str.ofString "do_deallocate"), key := Value.str (Str.ofString "do_deallocate") 1272, val := Value.ref 796 }, { hash := PyData.keyHash P (Str.ofString "do_neck_cut"), key := Value.str (Str.ofString "do_neck_cut") 1280, val := Value.ref 803 }]
noncomputable def dk_3_11 (P : Params) : List DictEntry := [{ hash := PyData.keyHash P (Str.ofString "do_get_level"), key := Value.str (Str.ofString "do_get_level") 1288, val := Value.ref 810 }, { hash := PyData.keyHash P (Str.ofString "do_mark"), key := Value.str (Str.ofString "do_mark") 1296, val := Value.ref 817 }, { hash := PyData.keyHash P (Str.ofString "do_cut_to"), key := Value.str (Str.ofString "do_cut_to") 1304, val := Value.ref 824 }, { hash := PyData.keyHash P (Str.ofString "do_fail"), key := Value.str (Str.ofString "do_fail") 1312, val := Value.ref 831 }, { hash := PyData.keyHash P (Str.ofString "do_halt"), key := Value.str (Str.ofString "do_halt") 1320, val := Value.ref 838 }, { hash := PyData.keyHash P (Str.ofString "do_try"), key := Value.str (Str.ofString "do_try") 1328, val := Value.ref 845 }, { hash := PyData.keyHash P (Str.ofString "do_retry"), key := Value.str (Str.ofString "do_retry") 1336, val := Value.ref 852 }, { hash := PyData.keyHash P (Str.ofString "do_trust"), key := Value.str (Str.ofString "do_trust") 1344, val := Value.ref 859 }]
noncomputable def dk_3_12 (P : Params) : List DictEntry := [{ hash := PyData.keyHash P (Str.ofString "do_switch_on_term"), key := Value.str (Str.ofString "do_switch_on_term") 1353, val := Value.ref 866 }, { hash := PyData.keyHash P (Str.ofString "do_switch_on_constant"), key := Value.str (Str.ofString "do_switch_on_constant") 1361, val := Value.ref 873 }, { hash := PyData.keyHash P (Str.ofString "do_switch_on_structure"), key := Value.str (Str.ofString "do_switch_on_structure") 1370, val := Value.ref 880 }, { hash := PyData.keyHash P (Str.ofString "plain_control_table"), key := Value.str (Str.ofString "plain_control_table") 1378, val := Value.ref 887 }, { hash := PyData.keyHash P (Str.ofString "Emulator"), key := Value.str (Str.ofString "Emulator") 1477, val := Value.ref 954 }, { hash := PyData.keyHash P (Str.ofString "_law_digit"), key := Value.str (Str.ofString "_law_digit") 1490, val := Value.ref 963 }, { hash := PyData.keyHash P (Str.ofString "_law_facts"), key := Value.str (Str.ofString "_law_facts") 1503, val := Value.ref 970 }, { hash := PyData.keyHash P (Str.ofString "_law_rule"), key := Value.str (Str.ofString "_law_rule") 1512, val := Value.ref 977 }]
noncomputable def dk_3_13 (P : Params) : List DictEntry := [{ hash := PyData.keyHash P (Str.ofString "_law_answers"), key := Value.str (Str.ofString "_law_answers") 1518, val := Value.ref 982 }, { hash := PyData.keyHash P (Str.ofString "_law_stopped"), key := Value.str (Str.ofString "_law_stopped") 1530, val := Value.ref 989 }, { hash := PyData.keyHash P (Str.ofString "law"), key := Value.str (Str.ofString "law") 1536, val := Value.ref 994 }]
noncomputable def ko_3 (P : Params) : Obj := { cls := Value.type "dict", data := Data.dict (List.toArray (dk_3_0 P ++ dk_3_1 P ++ dk_3_2 P ++ dk_3_3 P ++ dk_3_4 P ++ dk_3_5 P ++ dk_3_6 P ++ dk_3_7 P ++ dk_3_8 P ++ dk_3_9 P ++ dk_3_10 P ++ dk_3_11 P ++ dk_3_12 P ++ dk_3_13 P)) 107 }
noncomputable def ko_30 (P : Params) : Obj := { cls := Value.type "dict", data := Data.dict #[{ hash := PyData.keyHash P (Str.ofString "__module__"), key := Value.str (Str.ofString "__module__") 203, val := Value.str (Str.ofString "clausemill.symbols") 194 }, { hash := PyData.keyHash P (Str.ofString "__firstlineno__"), key := Value.str (Str.ofString "__firstlineno__") 207, val := Value.int 5 206 }, { hash := PyData.keyHash P (Str.ofString "__static_attributes__"), key := Value.str (Str.ofString "__static_attributes__") 208, val := Value.ref 29 }, { hash := PyData.keyHash P (Str.ofString "__weakref__"), key := Value.str (Str.ofString "__weakref__") 210, val := Value.ref 32 }, { hash := PyData.keyHash P (Str.ofString "__doc__"), key := Value.str (Str.ofString "__doc__") 211, val := Value.none }] 3 }
noncomputable def ko_31 (P : Params) : Obj := { cls := Value.type "type", data := Data.cls { name := Str.ofString "ClausemillError", bases := [Value.type "Exception"], mro := [Value.ref 31, Value.type "Exception", Value.type "BaseException", Value.type "object"], ns := 30, qualname := Str.ofString "ClausemillError", subclasses := [Value.ref 51, Value.ref 71] }, slots := #[some (Value.ref 22), none, some (Value.str (Str.ofString "ClausemillError") 196), some (Value.str (Str.ofString "ClausemillError") 204), some (Value.builtin "Exception.__new__"), some (Value.bool true)] }
noncomputable def ko_61 (P : Params) : Obj := { cls := Value.type "tuple", data := Data.seq #[Value.int 0 253] }
noncomputable def ko_67 (P : Params) : Obj := { cls := Value.type "code", data := Data.fields #[Value.str (Str.ofString "__init__") 254, Value.str (Str.ofString "StepLimit.__init__") 255, Value.str (Str.ofString "/claim/cut.py") 256, Value.int 13 0, Value.int 2 0, Value.int 0 0, Value.int 0 0, Value.int 3 0, Value.ref 62, Value.bool true, Value.int 181 0, Value.ref 63, Value.none, Value.ref 64, Value.ref 65, Value.ref 66, Value.int 259 0, Value.int 13 0, Value.str (Str.ofString "/claim/cut.py") 260] }
noncomputable def ko_68 (P : Params) : Obj := fnO f_StepLimit___init__ "StepLimit.__init__" (Value.ref 61) (Value.str (Str.ofString "clausemill.symbols") 194) (Value.ref 67)
noncomputable def ko_70 (P : Params) : Obj := { cls := Value.type "dict", data := Data.dict #[{ hash := PyData.keyHash P (Str.ofString "__module__"), key := Value.str (Str.ofString "__module__") 248, val := Value.str (Str.ofString "clausemill.symbols") 194 }, { hash := PyData.keyHash P (Str.ofString "__firstlineno__"), key := Value.str (Str.ofString "__firstlineno__") 252, val := Value.int 11 251 }, { hash := PyData.keyHash P (Str.ofString "__init__"), key := Value.str (Str.ofString "__init__") 261, val := Value.ref 68 }, { hash := PyData.keyHash P (Str.ofString "__static_attributes__"), key := Value.str (Str.ofString "__static_attributes__") 263, val := Value.ref 69 }, { hash := PyData.keyHash P (Str.ofString "__doc__"), key := Value.str (Str.ofString "__doc__") 264, val := Value.none }] 2 }
noncomputable def ko_71 (P : Params) : Obj := { cls := Value.type "type", data := Data.cls { name := Str.ofString "StepLimit", bases := [Value.ref 31], mro := [Value.ref 71, Value.ref 31, Value.type "Exception", Value.type "BaseException", Value.type "object"], ns := 70, qualname := Str.ofString "StepLimit" }, slots := #[some (Value.ref 54), none, some (Value.str (Str.ofString "StepLimit") 241), some (Value.str (Str.ofString "StepLimit") 249), some (Value.builtin "Exception.__new__"), some (Value.bool true)] }
noncomputable def ko_95 (P : Params) : Obj := { cls := Value.type "tuple", data := Data.seq #[Value.int 5 315, Value.int 0 319] }
noncomputable def ko_103 (P : Params) : Obj := { cls := Value.type "tuple", data := Data.seq #[Value.int 100000 333] }
noncomputable def ko_109 (P : Params) : Obj := { cls := Value.type "code", data := Data.fields #[Value.str (Str.ofString "__init__") 334, Value.str (Str.ofString "Cells.__init__") 335, Value.str (Str.ofString "/claim/cut.py") 336, Value.int 40 0, Value.int 3 0, Value.int 0 0, Value.int 0 0, Value.int 3 0, Value.ref 104, Value.bool true, Value.int 181 0, Value.ref 105, Value.none, Value.ref 106, Value.ref 107, Value.ref 108, Value.int 340 0, Value.int 40 0, Value.str (Str.ofString "/claim/cut.py") 341] }
noncomputable def ko_110 (P : Params) : Obj := fnO f_Cells___init__ "Cells.__init__" (Value.ref 103) (Value.str (Str.ofString "clausemill.store") 303) (Value.ref 109)
noncomputable def ko_116 (P : Params) : Obj := { cls := Value.type "code", data := Data.fields #[Value.str (Str.ofString "push") 343, Value.str (Str.ofString "Cells.push") 344, Value.str (Str.ofString "/claim/cut.py") 345, Value.int 49 0, Value.int 2 0, Value.int 0 0, Value.int 0 0, Value.int 3 0, Value.ref 111, Value.bool true, Value.int 181 0, Value.ref 112, Value.none, Value.ref 113, Value.ref 114, Value.ref 115, Value.int 349 0, Value.int 49 0, Value.str (Str.ofString "/claim/cut.py") 350] }
noncomputable def ko_117 (P : Params) : Obj := fnO f_Cells_push "Cells.push" (Value.none) (Value.str (Str.ofString "clausemill.store") 303) (Value.ref 116)
noncomputable def ko_123 (P : Params) : Obj := { cls := Value.type "code", data := Data.fields #[Value.str (Str.ofString "new_var") 352, Value.str (Str.ofString "Cells.new_var") 353, Value.str (Str.ofString "/claim/cut.py") 354, Value.int 56 0, Value.int 1 0, Value.int 0 0, Value.int 0 0, Value.int 3 0, Value.ref 118, Value.bool true, Value.int 181 0, Value.ref 119, Value.none, Value.ref 120, Value.ref 121, Value.ref 122, Value.int 357 0, Value.int 56 0, Value.str (Str.ofString "/claim/cut.py") 358] }
noncomputable def ko_124 (P : Params) : Obj := fnO f_Cells_new_var "Cells.new_var" (Value.none) (Value.str (Str.ofString "clausemill.store") 303) (Value.ref 123)
noncomputable def ko_137 (P : Params) : Obj := { cls := Value.type "code", data := Data.fields #[Value.str (Str.ofString "trim") 368, Value.str (Str.ofString "Cells.trim") 369, Value.str (Str.ofString "/claim/cut.py") 370, Value.int 64 0, Value.int 2 0, Value.int 0 0, Value.int 0 0, Value.int 3 0, Value.ref 132, Value.bool true, Value.int 181 0, Value.ref 133, Value.none, Value.ref 134, Value.ref 135, Value.ref 136, Value.int 373 0, Value.int 64 0, Value.str (Str.ofString "/claim/cut.py") 374] }
noncomputable def ko_138 (P : Params) : Obj := fnO f_Cells_trim "Cells.trim" (Value.none) (Value.str (Str.ofString "clausemill.store") 303) (Value.ref 137)
noncomputable def ko_144 (P : Params) : Obj := { cls := Value.type "code", data := Data.fields #[Value.str (Str.ofString "deref") 376, Value.str (Str.ofString "Cells.deref") 377, Value.str (Str.ofString "/claim/cut.py") 378, Value.int 67 0, Value.int 2 0, Value.int 0 0, Value.int 0 0, Value.int 3 0, Value.ref 139, Value.bool true, Value.int 181 0, Value.ref 140, Value.none, Value.ref 141, Value.ref 142, Value.ref 143, Value.int 383 0, Value.int 67 0, Value.str (Str.ofString "/claim/cut.py") 384] }
noncomputable def ko_145 (P : Params) : Obj := fnO f_Cells_deref "Cells.deref" (Value.none) (Value.str (Str.ofString "clausemill.store") 303) (Value.ref 144)
noncomputable def ko_158 (P : Params) : Obj := { cls := Value.type "code", data := Data.fields #[Value.str (Str.ofString "bind") 394, Value.str (Str.ofString "Cells.bind") 395, Value.str (Str.ofString "/claim/cut.py") 396, Value.int 83 0, Value.int 3 0, Value.int 0 0, Value.int 0 0, Value.int 3 0, Value.ref 153, Value.bool true, Value.int 181 0, Value.ref 154, Value.none, Value.ref 155, Value.ref 156, Value.ref 157, Value.int 401 0, Value.int 83 0, Value.str (Str.ofString "/claim/cut.py") 402] }
noncomputable def ko_159 (P : Params) : Obj := fnO f_Cells_bind "Cells.bind" (Value.none) (Value.str (Str.ofString "clausemill.store") 303) (Value.ref 158)
noncomputable def ko_179 (P : Params) : Obj := { cls := Value.type "code", data := Data.fields #[Value.str (Str.ofString "mark") 422, Value.str (Str.ofString "Cells.mark") 423, Value.str (Str.ofString "/claim/cut.py") 424, Value.int 115 0, Value.int 1 0, Value.int 0 0, Value.int 0 0, Value.int 3 0, Value.ref 174, Value.bool true, Value.int 181 0, Value.ref 175, Value.none, Value.ref 176, Value.ref 177, Value.ref 178, Value.int 426 0, Value.int 115 0, Value.str (Str.ofString "/claim/cut.py") 427] }
noncomputable def ko_180 (P : Params) : Obj := fnO f_Cells_mark "Cells.mark" (Value.none) (Value.str (Str.ofString "clausemill.store") 303) (Value.ref 179)
noncomputable def ko_186 (P : Params) : Obj := { cls := Value.type "code", data := Data.fields #[Value.str (Str.ofString "undo_to") 429, Value.str (Str.ofString "Cells.undo_to") 430, Value.str (Str.ofString "/claim/cut.py") 431, Value.int 118 0, Value.int 2 0, Value.int 0 0, Value.int 0 0, Value.int 3 0, Value.ref 181, Value.bool true, Value.int 181 0, Value.ref 182, Value.none, Value.ref 183, Value.ref 184, Value.ref 185, Value.int 436 0, Value.int 118 0, Value.str (Str.ofString "/claim/cut.py") 437] }
noncomputable def ko_187 (P : Params) : Obj := fnO f_Cells_undo_to "Cells.undo_to" (Value.none) (Value.str (Str.ofString "clausemill.store") 303) (Value.ref 186)
noncomputable def ko_193 (P : Params) : Obj := { cls := Value.type "code", data := Data.fields #[Value.str (Str.ofString "stack_put") 439, Value.str (Str.ofString "Cells.stack_put") 440, Value.str (Str.ofString "/claim/cut.py") 441, Value.int 127 0, Value.int 3 0, Value.int 0 0, Value.int 0 0, Value.int 3 0, Value.ref 188, Value.bool true, Value.int 181 0, Value.ref 189, Value.none, Value.ref 190, Value.ref 191, Value.ref 192, Value.int 446 0, Value.int 127 0, Value.str (Str.ofString "/claim/cut.py") 447] }
noncomputable def ko_194 (P : Params) : Obj := fnO f_Cells_stack_put "Cells.stack_put" (Value.none) (Value.str (Str.ofString "clausemill.store") 303) (Value.ref 193)
noncomputable def dk_238_0 (P : Params) : List DictEntry := [{ hash := PyData.keyHash P (Str.ofString "__module__"), key := Value.str (Str.ofString "__module__") 328, val := Value.str (Str.ofString "clausemill.store") 303 }, { hash := PyData.keyHash P (Str.ofString "__firstlineno__"), key := Value.str (Str.ofString "__firstlineno__") 332, val := Value.int 38 331 }, { hash := PyData.keyHash P (Str.ofString "__init__"), key := Value.str (Str.ofString "__init__") 342, val := Value.ref 110 }, { hash := PyData.keyHash P (Str.ofString "push"), key := Value.str (Str.ofString "push") 351, val := Value.ref 117 }, { hash := PyData.keyHash P (Str.ofString "new_var"), key := Value.str (Str.ofString "new_var") 359, val := Value.ref 124 }, { hash := PyData.keyHash P (Str.ofString "reserve"), key := Value.str (Str.ofString "reserve") 367, val := Value.ref 131 }, { hash := PyData.keyHash P (Str.ofString "trim"), key := Value.str (Str.ofString "trim") 375, val := Value.ref 138 }, { hash := PyData.keyHash P (Str.ofString "deref"), key := Value.str (Str.ofString "deref") 385, val := Value.ref 145 }]
noncomputable def dk_238_1 (P : Params) : List DictEntry := [{ hash := PyData.keyHash P (Str.ofString "is_unbound"), key := Value.str (Str.ofString "is_unbound") 393, val := Value.ref 152 }, { hash := PyData.keyHash P (Str.ofString "bind"), key := Value.str (Str.ofString "bind") 403, val := Value.ref 159 }, { hash := PyData.keyHash P (Str.ofString "bind_pair"), key := Value.str (Str.ofString "bind_pair") 412, val := Value.ref 166 }, { hash := PyData.keyHash P (Str.ofString "globalise"), key := Value.str (Str.ofString "globalise") 421, val := Value.ref 173 }, { hash := PyData.keyHash P (Str.ofString "mark"), key := Value.str (Str.ofString "mark") 428, val := Value.ref 180 }, { hash := PyData.keyHash P (Str.ofString "undo_to"), key := Value.str (Str.ofString "undo_to") 438, val := Value.ref 187 }, { hash := PyData.keyHash P (Str.ofString "stack_put"), key := Value.str (Str.ofString "stack_put") 448, val := Value.ref 194 }, { hash := PyData.keyHash P (Str.ofString "is_compound"), key := Value.str (Str.ofString "is_compound") 456, val := Value.ref 201 }]
noncomputable def dk_238_2 (P : Params) : List DictEntry := [{ hash := PyData.keyHash P (Str.ofString "functor_of"), key := Value.str (Str.ofString "functor_of") 465, val := Value.ref 208 }, { hash := PyData.keyHash P (Str.ofString "width"), key := Value.str (Str.ofString "width") 474, val := Value.ref 215 }, { hash := PyData.keyHash P (Str.ofString "base"), key := Value.str (Str.ofString "base") 482, val := Value.ref 222 }, { hash := PyData.keyHash P (Str.ofString "arg"), key := Value.str (Str.ofString "arg") 491, val := Value.ref 229 }, { hash := PyData.keyHash P (Str.ofString "new_block"), key := Value.str (Str.ofString "new_block") 499, val := Value.ref 236 }, { hash := PyData.keyHash P (Str.ofString "__static_attributes__"), key := Value.str (Str.ofString "__static_attributes__") 507, val := Value.ref 237 }, { hash := PyData.keyHash P (Str.ofString "__dict__"), key := Value.str (Str.ofString "__dict__") 509, val := Value.ref 240 }, { hash := PyData.keyHash P (Str.ofString "__weakref__"), key := Value.str (Str.ofString "__weakref__") 511, val := Value.ref 241 }]
noncomputable def dk_238_3 (P : Params) : List DictEntry := [{ hash := PyData.keyHash P (Str.ofString "__doc__"), key := Value.str (Str.ofString "__doc__") 512, val := Value.none }]
noncomputable def ko_238 (P : Params) : Obj := { cls := Value.type "dict", data := Data.dict (List.toArray (dk_238_0 P ++ dk_238_1 P ++ dk_238_2 P ++ dk_238_3 P)) 4 }
noncomputable def ko_239 (P : Params) : Obj := { cls := Value.type "type", data := Data.cls { name := Str.ofString "Cells", bases := [Value.type "object"], mro := [Value.ref 239, Value.type "object"], ns := 238, qualname := Str.ofString "Cells", subclasses := [Value.ref 296] }, slots := #[none, none, some (Value.str (Str.ofString "Cells") 321), some (Value.str (Str.ofString "Cells") 329), some (Value.builtin "object.__new__"), some (Value.bool true)] }
noncomputable def ko_295 (P : Params) : Obj := { cls := Value.type "dict", data := Data.dict #[{ hash := PyData.keyHash P (Str.ofString "__module__"), key := Value.str (Str.ofString "__module__") 522, val := Value.str (Str.ofString "clausemill.store") 303 }, { hash := PyData.keyHash P (Str.ofString "__firstlineno__"), key := Value.str (Str.ofString "__firstlineno__") 526, val := Value.int 167 525 }, { hash := PyData.keyHash P (Str.ofString "new_struct"), key := Value.str (Str.ofString "new_struct") 535, val := Value.ref 257 }, { hash := PyData.keyHash P (Str.ofString "build_list"), key := Value.str (Str.ofString "build_list") 544, val := Value.ref 265 }, { hash := PyData.keyHash P (Str.ofString "list_cells"), key := Value.str (Str.ofString "list_cells") 552, val := Value.ref 272 }, { hash := PyData.keyHash P (Str.ofString "put_term"), key := Value.str (Str.ofString "put_term") 561, val := Value.ref 279 }, { hash := PyData.keyHash P (Str.ofString "whole_size"), key := Value.str (Str.ofString "whole_size") 570, val := Value.ref 286 }, { hash := PyData.keyHash P (Str.ofString "take_term"), key := Value.str (Str.ofString "take_term") 579, val := Value.ref 293 }, { hash := PyData.keyHash P (Str.ofString "__static_attributes__"), key := Value.str (Str.ofString "__static_attributes__") 580, val := Value.ref 294 }, { hash := PyData.keyHash P (Str.ofString "__doc__"), key := Value.str (Str.ofString "__doc__") 581, val := Value.none }] 2 }
noncomputable def ko_296 (P : Params) : Obj := { cls := Value.type "type", data := Data.cls { name := Str.ofString "Store", bases := [Value.ref 239], mro := [Value.ref 296, Value.ref 239, Value.type "object"], ns := 295, qualname := Str.ofString "Store" }, slots := #[some (Value.ref 244), none, some (Value.str (Str.ofString "Store") 515), some (Value.str (Str.ofString "Store") 523), some (Value.builtin "object.__new__"), some (Value.bool true)] }
noncomputable def ko_390 (P : Params) : Obj := { cls := Value.type "tuple", data := Data.seq #[Value.int 100000 747, Value.bool true, Value.int 4096 748] }
noncomputable def ko_396 (P : Params) : Obj := { cls := Value.type "code", data := Data.fields #[Value.str (Str.ofString "__init__") 749, Value.str (Str.ofString "Areas.__init__") 750, Value.str (Str.ofString "/claim/cut.py") 751, Value.int 287 0, Value.int 6 0, Value.int 0 0, Value.int 0 0, Value.int 3 0, Value.ref 391, Value.bool true, Value.int 181 0, Value.ref 392, Value.none, Value.ref 393, Value.ref 394, Value.ref 395, Value.int 758 0, Value.int 287 0, Value.str (Str.ofString "/claim/cut.py") 759] }
noncomputable def ko_397 (P : Params) : Obj := fnO f_Areas___init__ "Areas.__init__" (Value.ref 390) (Value.str (Str.ofString "clausemill.areas") 713) (Value.ref 396)
noncomputable def ko_403 (P : Params) : Obj := { cls := Value.type "code", data := Data.fields #[Value.str (Str.ofString "reset") 761, Value.str (Str.ofString "Areas.reset") 762, Value.str (Str.ofString "/claim/cut.py") 763, Value.int 295 0, Value.int 1 0, Value.int 0 0, Value.int 0 0, Value.int 3 0, Value.ref 398, Value.bool true, Value.int 181 0, Value.ref 399, Value.none, Value.ref 400, Value.ref 401, Value.ref 402, Value.int 765 0, Value.int 295 0, Value.str (Str.ofString "/claim/cut.py") 766] }
noncomputable def ko_404 (P : Params) : Obj := fnO f_Areas_reset "Areas.reset" (Value.none) (Value.str (Str.ofString "clausemill.areas") 713) (Value.ref 403)
noncomputable def ko_410 (P : Params) : Obj := { cls := Value.type "code", data := Data.fields #[Value.str (Str.ofString "set_x") 768, Value.str (Str.ofString "Areas.set_x") 769, Value.str (Str.ofString "/claim/cut.py") 770, Value.int 310 0, Value.int 3 0, Value.int 0 0, Value.int 0 0, Value.int 3 0, Value.ref 405, Value.bool true, Value.int 181 0, Value.ref 406, Value.none, Value.ref 407, Value.ref 408, Value.ref 409, Value.int 774 0, Value.int 310 0, Value.str (Str.ofString "/claim/cut.py") 775] }
noncomputable def ko_411 (P : Params) : Obj := fnO f_Areas_set_x "Areas.set_x" (Value.none) (Value.str (Str.ofString "clausemill.areas") 713) (Value.ref 410)
noncomputable def ko_417 (P : Params) : Obj := { cls := Value.type "code", data := Data.fields #[Value.str (Str.ofString "set_arguments") 777, Value.str (Str.ofString "Areas.set_arguments") 778, Value.str (Str.ofString "/claim/cut.py") 779, Value.int 315 0, Value.int 2 0, Value.int 0 0, Value.int 0 0, Value.int 3 0, Value.ref 412, Value.bool true, Value.int 181 0, Value.ref 413, Value.none, Value.ref 414, Value.ref 415, Value.ref 416, Value.int 784 0, Value.int 315 0, Value.str (Str.ofString "/claim/cut.py") 785] }
noncomputable def ko_418 (P : Params) : Obj := fnO f_Areas_set_arguments "Areas.set_arguments" (Value.none) (Value.str (Str.ofString "clausemill.areas") 713) (Value.ref 417)
noncomputable def ko_452 (P : Params) : Obj := { cls := Value.type "code", data := Data.fields #[Value.str (Str.ofString "top") 820, Value.str (Str.ofString "Areas.top") 821, Value.str (Str.ofString "/claim/cut.py") 822, Value.int 333 0, Value.int 1 0, Value.int 0 0, Value.int 0 0, Value.int 3 0, Value.ref 447, Value.bool true, Value.int 181 0, Value.ref 448, Value.none, Value.ref 449, Value.ref 450, Value.ref 451, Value.int 824 0, Value.int 333 0, Value.str (Str.ofString "/claim/cut.py") 825] }
noncomputable def ko_453 (P : Params) : Obj := fnO f_Areas_top "Areas.top" (Value.none) (Value.str (Str.ofString "clausemill.areas") 713) (Value.ref 452)
noncomputable def ko_459 (P : Params) : Obj := { cls := Value.type "code", data := Data.fields #[Value.str (Str.ofString "push_environment") 827, Value.str (Str.ofString "Areas.push_environment") 828, Value.str (Str.ofString "/claim/cut.py") 829, Value.int 340 0, Value.int 2 0, Value.int 0 0, Value.int 0 0, Value.int 3 0, Value.ref 454, Value.bool true, Value.int 181 0, Value.ref 455, Value.none, Value.ref 456, Value.ref 457, Value.ref 458, Value.int 835 0, Value.int 340 0, Value.str (Str.ofString "/claim/cut.py") 836] }
noncomputable def ko_460 (P : Params) : Obj := fnO f_Areas_push_environment "Areas.push_environment" (Value.none) (Value.str (Str.ofString "clausemill.areas") 713) (Value.ref 459)
noncomputable def ko_466 (P : Params) : Obj := { cls := Value.type "code", data := Data.fields #[Value.str (Str.ofString "pop_environment") 838, Value.str (Str.ofString "Areas.pop_environment") 839, Value.str (Str.ofString "/claim/cut.py") 840, Value.int 349 0, Value.int 1 0, Value.int 0 0, Value.int 0 0, Value.int 3 0, Value.ref 461, Value.bool true, Value.int 181 0, Value.ref 462, Value.none, Value.ref 463, Value.ref 464, Value.ref 465, Value.int 843 0, Value.int 349 0, Value.str (Str.ofString "/claim/cut.py") 844] }
noncomputable def ko_467 (P : Params) : Obj := fnO f_Areas_pop_environment "Areas.pop_environment" (Value.none) (Value.str (Str.ofString "clausemill.areas") 713) (Value.ref 466)
noncomputable def ko_480 (P : Params) : Obj := { cls := Value.type "code", data := Data.fields #[Value.str (Str.ofString "set_choice") 854, Value.str (Str.ofString "Areas.set_choice") 855, Value.str (Str.ofString "/claim/cut.py") 856, Value.int 357 0, Value.int 2 0, Value.int 0 0, Value.int 0 0, Value.int 3 0, Value.ref 475, Value.bool true, Value.int 181 0, Value.ref 476, Value.none, Value.ref 477, Value.ref 478, Value.ref 479, Value.int 860 0, Value.int 357 0, Value.str (Str.ofString "/claim/cut.py") 861] }
noncomputable def ko_481 (P : Params) : Obj := fnO f_Areas_set_choice "Areas.set_choice" (Value.none) (Value.str (Str.ofString "clausemill.areas") 713) (Value.ref 480)
noncomputable def ko_487 (P : Params) : Obj := { cls := Value.type "code", data := Data.fields #[Value.str (Str.ofString "push_choice") 863, Value.str (Str.ofString "Areas.push_choice") 864, Value.str (Str.ofString "/claim/cut.py") 865, Value.int 367 0, Value.int 3 0, Value.int 0 0, Value.int 0 0, Value.int 3 0, Value.ref 482, Value.bool true, Value.int 181 0, Value.ref 483, Value.none, Value.ref 484, Value.ref 485, Value.ref 486, Value.int 874 0, Value.int 367 0, Value.str (Str.ofString "/claim/cut.py") 875] }
noncomputable def ko_488 (P : Params) : Obj := fnO f_Areas_push_choice "Areas.push_choice" (Value.none) (Value.str (Str.ofString "clausemill.areas") 713) (Value.ref 487)
noncomputable def ko_494 (P : Params) : Obj := { cls := Value.type "code", data := Data.fields #[Value.str (Str.ofString "set_alternative") 877, Value.str (Str.ofString "Areas.set_alternative") 878, Value.str (Str.ofString "/claim/cut.py") 879, Value.int 385 0, Value.int 2 0, Value.int 0 0, Value.int 0 0, Value.int 3 0, Value.ref 489, Value.bool true, Value.int 181 0, Value.ref 490, Value.none, Value.ref 491, Value.ref 492, Value.ref 493, Value.int 883 0, Value.int 385 0, Value.str (Str.ofString "/claim/cut.py") 884] }
noncomputable def ko_495 (P : Params) : Obj := fnO f_Areas_set_alternative "Areas.set_alternative" (Value.none) (Value.str (Str.ofString "clausemill.areas") 713) (Value.ref 494)
noncomputable def ko_501 (P : Params) : Obj := { cls := Value.type "code", data := Data.fields #[Value.str (Str.ofString "choice_part") 886, Value.str (Str.ofString "Areas.choice_part") 887, Value.str (Str.ofString "/claim/cut.py") 888, Value.int 389 0, Value.int 2 0, Value.int 0 0, Value.int 0 0, Value.int 3 0, Value.ref 496, Value.bool true, Value.int 181 0, Value.ref 497, Value.none, Value.ref 498, Value.ref 499, Value.ref 500, Value.int 892 0, Value.int 389 0, Value.str (Str.ofString "/claim/cut.py") 893] }
noncomputable def ko_502 (P : Params) : Obj := fnO f_Areas_choice_part "Areas.choice_part" (Value.none) (Value.str (Str.ofString "clausemill.areas") 713) (Value.ref 501)
noncomputable def ko_508 (P : Params) : Obj := { cls := Value.type "code", data := Data.fields #[Value.str (Str.ofString "restore_choice") 895, Value.str (Str.ofString "Areas.restore_choice") 896, Value.str (Str.ofString "/claim/cut.py") 897, Value.int 393 0, Value.int 1 0, Value.int 0 0, Value.int 0 0, Value.int 3 0, Value.ref 503, Value.bool true, Value.int 181 0, Value.ref 504, Value.none, Value.ref 505, Value.ref 506, Value.ref 507, Value.int 902 0, Value.int 393 0, Value.str (Str.ofString "/claim/cut.py") 903] }
noncomputable def ko_509 (P : Params) : Obj := fnO f_Areas_restore_choice "Areas.restore_choice" (Value.none) (Value.str (Str.ofString "clausemill.areas") 713) (Value.ref 508)
noncomputable def ko_515 (P : Params) : Obj := { cls := Value.type "code", data := Data.fields #[Value.str (Str.ofString "pop_choice") 905, Value.str (Str.ofString "Areas.pop_choice") 906, Value.str (Str.ofString "/claim/cut.py") 907, Value.int 403 0, Value.int 1 0, Value.int 0 0, Value.int 0 0, Value.int 3 0, Value.ref 510, Value.bool true, Value.int 181 0, Value.ref 511, Value.none, Value.ref 512, Value.ref 513, Value.ref 514, Value.int 909 0, Value.int 403 0, Value.str (Str.ofString "/claim/cut.py") 910] }
noncomputable def ko_516 (P : Params) : Obj := fnO f_Areas_pop_choice "Areas.pop_choice" (Value.none) (Value.str (Str.ofString "clausemill.areas") 713) (Value.ref 515)
noncomputable def ko_522 (P : Params) : Obj := { cls := Value.type "code", data := Data.fields #[Value.str (Str.ofString "cut_back") 912, Value.str (Str.ofString "Areas.cut_back") 913, Value.str (Str.ofString "/claim/cut.py") 914, Value.int 406 0, Value.int 2 0, Value.int 0 0, Value.int 0 0, Value.int 3 0, Value.ref 517, Value.bool true, Value.int 181 0, Value.ref 518, Value.none, Value.ref 519, Value.ref 520, Value.ref 521, Value.int 917 0, Value.int 406 0, Value.str (Str.ofString "/claim/cut.py") 918] }
noncomputable def ko_523 (P : Params) : Obj := fnO f_Areas_cut_back "Areas.cut_back" (Value.none) (Value.str (Str.ofString "clausemill.areas") 713) (Value.ref 522)
noncomputable def ko_529 (P : Params) : Obj := { cls := Value.type "code", data := Data.fields #[Value.str (Str.ofString "choices") 920, Value.str (Str.ofString "Areas.choices") 921, Value.str (Str.ofString "/claim/cut.py") 922, Value.int 410 0, Value.int 1 0, Value.int 0 0, Value.int 0 0, Value.int 3 0, Value.ref 524, Value.bool true, Value.int 181 0, Value.ref 525, Value.none, Value.ref 526, Value.ref 527, Value.ref 528, Value.int 927 0, Value.int 410 0, Value.str (Str.ofString "/claim/cut.py") 928] }
noncomputable def ko_530 (P : Params) : Obj := fnO f_Areas_choices "Areas.choices" (Value.none) (Value.str (Str.ofString "clausemill.areas") 713) (Value.ref 529)
noncomputable def dk_539_0 (P : Params) : List DictEntry := [{ hash := PyData.keyHash P (Str.ofString "__module__"), key := Value.str (Str.ofString "__module__") 742, val := Value.str (Str.ofString "clausemill.areas") 713 }, { hash := PyData.keyHash P (Str.ofString "__firstlineno__"), key := Value.str (Str.ofString "__firstlineno__") 746, val := Value.int 285 745 }, { hash := PyData.keyHash P (Str.ofString "__init__"), key := Value.str (Str.ofString "__init__") 760, val := Value.ref 397 }, { hash := PyData.keyHash P (Str.ofString "reset"), key := Value.str (Str.ofString "reset") 767, val := Value.ref 404 }, { hash := PyData.keyHash P (Str.ofString "set_x"), key := Value.str (Str.ofString "set_x") 776, val := Value.ref 411 }, { hash := PyData.keyHash P (Str.ofString "set_arguments"), key := Value.str (Str.ofString "set_arguments") 786, val := Value.ref 418 }, { hash := PyData.keyHash P (Str.ofString "arg"), key := Value.str (Str.ofString "arg") 794, val := Value.ref 425 }, { hash := PyData.keyHash P (Str.ofString "unify"), key := Value.str (Str.ofString "unify") 803, val := Value.ref 432 }]
noncomputable def dk_539_1 (P : Params) : List DictEntry := [{ hash := PyData.keyHash P (Str.ofString "take"), key := Value.str (Str.ofString "take") 811, val := Value.ref 439 }, { hash := PyData.keyHash P (Str.ofString "put"), key := Value.str (Str.ofString "put") 819, val := Value.ref 446 }, { hash := PyData.keyHash P (Str.ofString "top"), key := Value.str (Str.ofString "top") 826, val := Value.ref 453 }, { hash := PyData.keyHash P (Str.ofString "push_environment"), key := Value.str (Str.ofString "push_environment") 837, val := Value.ref 460 }, { hash := PyData.keyHash P (Str.ofString "pop_environment"), key := Value.str (Str.ofString "pop_environment") 845, val := Value.ref 467 }, { hash := PyData.keyHash P (Str.ofString "in_chain"), key := Value.str (Str.ofString "in_chain") 853, val := Value.ref 474 }, { hash := PyData.keyHash P (Str.ofString "set_choice"), key := Value.str (Str.ofString "set_choice") 862, val := Value.ref 481 }, { hash := PyData.keyHash P (Str.ofString "push_choice"), key := Value.str (Str.ofString "push_choice") 876, val := Value.ref 488 }]
noncomputable def dk_539_2 (P : Params) : List DictEntry := [{ hash := PyData.keyHash P (Str.ofString "set_alternative"), key := Value.str (Str.ofString "set_alternative") 885, val := Value.ref 495 }, { hash := PyData.keyHash P (Str.ofString "choice_part"), key := Value.str (Str.ofString "choice_part") 894, val := Value.ref 502 }, { hash := PyData.keyHash P (Str.ofString "restore_choice"), key := Value.str (Str.ofString "restore_choice") 904, val := Value.ref 509 }, { hash := PyData.keyHash P (Str.ofString "pop_choice"), key := Value.str (Str.ofString "pop_choice") 911, val := Value.ref 516 }, { hash := PyData.keyHash P (Str.ofString "cut_back"), key := Value.str (Str.ofString "cut_back") 919, val := Value.ref 523 }, { hash := PyData.keyHash P (Str.ofString "choices"), key := Value.str (Str.ofString "choices") 929, val := Value.ref 530 }, { hash := PyData.keyHash P (Str.ofString "environments"), key := Value.str (Str.ofString "environments") 936, val := Value.ref 537 }, { hash := PyData.keyHash P (Str.ofString "__static_attributes__"), key := Value.str (Str.ofString "__static_attributes__") 955, val := Value.ref 538 }]
noncomputable def dk_539_3 (P : Params) : List DictEntry := [{ hash := PyData.keyHash P (Str.ofString "__dict__"), key := Value.str (Str.ofString "__dict__") 957, val := Value.ref 541 }, { hash := PyData.keyHash P (Str.ofString "__weakref__"), key := Value.str (Str.ofString "__weakref__") 959, val := Value.ref 542 }, { hash := PyData.keyHash P (Str.ofString "__doc__"), key := Value.str (Str.ofString "__doc__") 960, val := Value.none }]
noncomputable def ko_539 (P : Params) : Obj := { cls := Value.type "dict", data := Data.dict (List.toArray (dk_539_0 P ++ dk_539_1 P ++ dk_539_2 P ++ dk_539_3 P)) 4 }
noncomputable def ko_540 (P : Params) : Obj := { cls := Value.type "type", data := Data.cls { name := Str.ofString "Areas", bases := [Value.type "object"], mro := [Value.ref 540, Value.type "object"], ns := 539, qualname := Str.ofString "Areas", subclasses := [Value.ref 954] }, slots := #[none, none, some (Value.str (Str.ofString "Areas") 735), some (Value.str (Str.ofString "Areas") 743), some (Value.builtin "object.__new__"), some (Value.bool true)] }
noncomputable def ko_550 (P : Params) : Obj := { cls := Value.type "code", data := Data.fields #[Value.str (Str.ofString "slot_index") 965, Value.str (Str.ofString "slot_index") 966, Value.str (Str.ofString "/claim/cut.py") 967, Value.int 422 0, Value.int 2 0, Value.int 0 0, Value.int 0 0, Value.int 3 0, Value.ref 545, Value.bool true, Value.int 181 0, Value.ref 546, Value.none, Value.ref 547, Value.ref 548, Value.ref 549, Value.int 970 0, Value.int 422 0, Value.str (Str.ofString "/claim/cut.py") 971] }
noncomputable def ko_551 (P : Params) : Obj := fnO f_slot_index "slot_index" (Value.none) (Value.str (Str.ofString "clausemill.moves") 963) (Value.ref 550)
noncomputable def ko_557 (P : Params) : Obj := { cls := Value.type "code", data := Data.fields #[Value.str (Str.ofString "read") 973, Value.str (Str.ofString "read") 974, Value.str (Str.ofString "/claim/cut.py") 975, Value.int 424 0, Value.int 2 0, Value.int 0 0, Value.int 0 0, Value.int 3 0, Value.ref 552, Value.bool true, Value.int 181 0, Value.ref 553, Value.none, Value.ref 554, Value.ref 555, Value.ref 556, Value.int 978 0, Value.int 424 0, Value.str (Str.ofString "/claim/cut.py") 979] }
noncomputable def ko_558 (P : Params) : Obj := fnO f_read "read" (Value.none) (Value.str (Str.ofString "clausemill.moves") 963) (Value.ref 557)
noncomputable def ko_564 (P : Params) : Obj := { cls := Value.type "code", data := Data.fields #[Value.str (Str.ofString "write") 981, Value.str (Str.ofString "write") 982, Value.str (Str.ofString "/claim/cut.py") 983, Value.int 428 0, Value.int 3 0, Value.int 0 0, Value.int 0 0, Value.int 3 0, Value.ref 559, Value.bool true, Value.int 181 0, Value.ref 560, Value.none, Value.ref 561, Value.ref 562, Value.ref 563, Value.int 988 0, Value.int 428 0, Value.str (Str.ofString "/claim/cut.py") 989] }
noncomputable def ko_565 (P : Params) : Obj := fnO f_write "write" (Value.none) (Value.str (Str.ofString "clausemill.moves") 963) (Value.ref 564)
noncomputable def ko_571 (P : Params) : Obj := { cls := Value.type "code", data := Data.fields #[Value.str (Str.ofString "match_constant") 991, Value.str (Str.ofString "match_constant") 992, Value.str (Str.ofString "/claim/cut.py") 993, Value.int 436 0, Value.int 3 0, Value.int 0 0, Value.int 0 0, Value.int 3 0, Value.ref 566, Value.bool true, Value.int 181 0, Value.ref 567, Value.none, Value.ref 568, Value.ref 569, Value.ref 570, Value.int 998 0, Value.int 436 0, Value.str (Str.ofString "/claim/cut.py") 999] }
noncomputable def ko_572 (P : Params) : Obj := fnO f_match_constant "match_constant" (Value.none) (Value.str (Str.ofString "clausemill.moves") 963) (Value.ref 571)
noncomputable def ko_599 (P : Params) : Obj := { cls := Value.type "code", data := Data.fields #[Value.str (Str.ofString "get_variable") 1027, Value.str (Str.ofString "get_variable") 1028, Value.str (Str.ofString "/claim/cut.py") 1029, Value.int 460 0, Value.int 2 0, Value.int 0 0, Value.int 0 0, Value.int 3 0, Value.ref 594, Value.bool true, Value.int 181 0, Value.ref 595, Value.none, Value.ref 596, Value.ref 597, Value.ref 598, Value.int 1032 0, Value.int 460 0, Value.str (Str.ofString "/claim/cut.py") 1033] }
noncomputable def ko_600 (P : Params) : Obj := fnO f_get_variable "get_variable" (Value.none) (Value.str (Str.ofString "clausemill.moves") 963) (Value.ref 599)
noncomputable def ko_613 (P : Params) : Obj := { cls := Value.type "code", data := Data.fields #[Value.str (Str.ofString "get_constant") 1043, Value.str (Str.ofString "get_constant") 1044, Value.str (Str.ofString "/claim/cut.py") 1045, Value.int 465 0, Value.int 2 0, Value.int 0 0, Value.int 0 0, Value.int 3 0, Value.ref 608, Value.bool true, Value.int 181 0, Value.ref 609, Value.none, Value.ref 610, Value.ref 611, Value.ref 612, Value.int 1048 0, Value.int 465 0, Value.str (Str.ofString "/claim/cut.py") 1049] }
noncomputable def ko_614 (P : Params) : Obj := fnO f_get_constant "get_constant" (Value.none) (Value.str (Str.ofString "clausemill.moves") 963) (Value.ref 613)
noncomputable def ko_690 (P : Params) : Obj := { cls := Value.type "code", data := Data.fields #[Value.str (Str.ofString "put_value") 1144, Value.str (Str.ofString "put_value") 1145, Value.str (Str.ofString "/claim/cut.py") 1146, Value.int 551 0, Value.int 2 0, Value.int 0 0, Value.int 0 0, Value.int 3 0, Value.ref 685, Value.bool true, Value.int 181 0, Value.ref 686, Value.none, Value.ref 687, Value.ref 688, Value.ref 689, Value.int 1149 0, Value.int 551 0, Value.str (Str.ofString "/claim/cut.py") 1150] }
noncomputable def ko_691 (P : Params) : Obj := fnO f_put_value "put_value" (Value.none) (Value.str (Str.ofString "clausemill.moves") 963) (Value.ref 690)
noncomputable def ko_760 (P : Params) : Obj := { cls := Value.type "code", data := Data.fields #[Value.str (Str.ofString "move_table") 1225, Value.str (Str.ofString "move_table") 1226, Value.str (Str.ofString "/claim/cut.py") 1227, Value.int 582 0, Value.int 0 0, Value.int 0 0, Value.int 0 0, Value.int 3 0, Value.ref 755, Value.bool true, Value.int 181 0, Value.ref 756, Value.none, Value.ref 757, Value.ref 758, Value.ref 759, Value.int 1228 0, Value.int 582 0, Value.str (Str.ofString "/claim/cut.py") 1229] }
noncomputable def ko_761 (P : Params) : Obj := fnO f_move_table "move_table" (Value.none) (Value.str (Str.ofString "clausemill.moves") 963) (Value.ref 760)
noncomputable def ko_767 (P : Params) : Obj := { cls := Value.type "code", data := Data.fields #[Value.str (Str.ofString "do_call") 1233, Value.str (Str.ofString "do_call") 1234, Value.str (Str.ofString "/claim/cut.py") 1235, Value.int 585 0, Value.int 2 0, Value.int 0 0, Value.int 0 0, Value.int 3 0, Value.ref 762, Value.bool true, Value.int 181 0, Value.ref 763, Value.none, Value.ref 764, Value.ref 765, Value.ref 766, Value.int 1238 0, Value.int 585 0, Value.str (Str.ofString "/claim/cut.py") 1239] }
noncomputable def ko_768 (P : Params) : Obj := fnO f_do_call "do_call" (Value.none) (Value.str (Str.ofString "clausemill.control") 1231) (Value.ref 767)
noncomputable def ko_774 (P : Params) : Obj := { cls := Value.type "code", data := Data.fields #[Value.str (Str.ofString "do_execute") 1241, Value.str (Str.ofString "do_execute") 1242, Value.str (Str.ofString "/claim/cut.py") 1243, Value.int 588 0, Value.int 2 0, Value.int 0 0, Value.int 0 0, Value.int 3 0, Value.ref 769, Value.bool true, Value.int 181 0, Value.ref 770, Value.none, Value.ref 771, Value.ref 772, Value.ref 773, Value.int 1246 0, Value.int 588 0, Value.str (Str.ofString "/claim/cut.py") 1247] }
noncomputable def ko_775 (P : Params) : Obj := fnO f_do_execute "do_execute" (Value.none) (Value.str (Str.ofString "clausemill.control") 1231) (Value.ref 774)
noncomputable def ko_781 (P : Params) : Obj := { cls := Value.type "code", data := Data.fields #[Value.str (Str.ofString "do_proceed") 1249, Value.str (Str.ofString "do_proceed") 1250, Value.str (Str.ofString "/claim/cut.py") 1251, Value.int 590 0, Value.int 2 0, Value.int 0 0, Value.int 0 0, Value.int 3 0, Value.ref 776, Value.bool true, Value.int 181 0, Value.ref 777, Value.none, Value.ref 778, Value.ref 779, Value.ref 780, Value.int 1254 0, Value.int 590 0, Value.str (Str.ofString "/claim/cut.py") 1255] }
noncomputable def ko_782 (P : Params) : Obj := fnO f_do_proceed "do_proceed" (Value.none) (Value.str (Str.ofString "clausemill.control") 1231) (Value.ref 781)
noncomputable def ko_788 (P : Params) : Obj := { cls := Value.type "code", data := Data.fields #[Value.str (Str.ofString "do_allocate") 1257, Value.str (Str.ofString "do_allocate") 1258, Value.str (Str.ofString "/claim/cut.py") 1259, Value.int 593 0, Value.int 2 0, Value.int 0 0, Value.int 0 0, Value.int 3 0, Value.ref 783, Value.bool true, Value.int 181 0, Value.ref 784, Value.none, Value.ref 785, Value.ref 786, Value.ref 787, Value.int 1262 0, Value.int 593 0, Value.str (Str.ofString "/claim/cut.py") 1263] }
noncomputable def ko_789 (P : Params) : Obj := fnO f_do_allocate "do_allocate" (Value.none) (Value.str (Str.ofString "clausemill.control") 1231) (Value.ref 788)
noncomputable def ko_795 (P : Params) : Obj := { cls := Value.type "code", data := Data.fields #[Value.str (Str.ofString "do_deallocate") 1265, Value.str (Str.ofString "do_deallocate") 1266, Value.str (Str.ofString "/claim/cut.py") 1267, Value.int 596 0, Value.int 2 0, Value.int 0 0, Value.int 0 0, Value.int 3 0, Value.ref 790, Value.bool true, Value.int 181 0, Value.ref 791, Value.none, Value.ref 792, Value.ref 793, Value.ref 794, Value.int 1270 0, Value.int 596 0, Value.str (Str.ofString "/claim/cut.py") 1271] }
noncomputable def ko_796 (P : Params) : Obj := fnO f_do_deallocate "do_deallocate" (Value.none) (Value.str (Str.ofString "clausemill.control") 1231) (Value.ref 795)
noncomputable def ko_809 (P : Params) : Obj := { cls := Value.type "code", data := Data.fields #[Value.str (Str.ofString "do_get_level") 1281, Value.str (Str.ofString "do_get_level") 1282, Value.str (Str.ofString "/claim/cut.py") 1283, Value.int 602 0, Value.int 2 0, Value.int 0 0, Value.int 0 0, Value.int 3 0, Value.ref 804, Value.bool true, Value.int 181 0, Value.ref 805, Value.none, Value.ref 806, Value.ref 807, Value.ref 808, Value.int 1286 0, Value.int 602 0, Value.str (Str.ofString "/claim/cut.py") 1287] }
noncomputable def ko_810 (P : Params) : Obj := fnO f_do_get_level "do_get_level" (Value.none) (Value.str (Str.ofString "clausemill.control") 1231) (Value.ref 809)
noncomputable def ko_823 (P : Params) : Obj := { cls := Value.type "code", data := Data.fields #[Value.str (Str.ofString "do_cut_to") 1297, Value.str (Str.ofString "do_cut_to") 1298, Value.str (Str.ofString "/claim/cut.py") 1299, Value.int 608 0, Value.int 2 0, Value.int 0 0, Value.int 0 0, Value.int 3 0, Value.ref 818, Value.bool true, Value.int 181 0, Value.ref 819, Value.none, Value.ref 820, Value.ref 821, Value.ref 822, Value.int 1302 0, Value.int 608 0, Value.str (Str.ofString "/claim/cut.py") 1303] }
noncomputable def ko_824 (P : Params) : Obj := fnO f_do_cut_to "do_cut_to" (Value.none) (Value.str (Str.ofString "clausemill.control") 1231) (Value.ref 823)
noncomputable def ko_837 (P : Params) : Obj := { cls := Value.type "code", data := Data.fields #[Value.str (Str.ofString "do_halt") 1313, Value.str (Str.ofString "do_halt") 1314, Value.str (Str.ofString "/claim/cut.py") 1315, Value.int 613 0, Value.int 2 0, Value.int 0 0, Value.int 0 0, Value.int 3 0, Value.ref 832, Value.bool true, Value.int 181 0, Value.ref 833, Value.none, Value.ref 834, Value.ref 835, Value.ref 836, Value.int 1318 0, Value.int 613 0, Value.str (Str.ofString "/claim/cut.py") 1319] }
noncomputable def ko_838 (P : Params) : Obj := fnO f_do_halt "do_halt" (Value.none) (Value.str (Str.ofString "clausemill.control") 1231) (Value.ref 837)
noncomputable def ko_844 (P : Params) : Obj := { cls := Value.type "code", data := Data.fields #[Value.str (Str.ofString "do_try") 1321, Value.str (Str.ofString "do_try") 1322, Value.str (Str.ofString "/claim/cut.py") 1323, Value.int 616 0, Value.int 2 0, Value.int 0 0, Value.int 0 0, Value.int 3 0, Value.ref 839, Value.bool true, Value.int 181 0, Value.ref 840, Value.none, Value.ref 841, Value.ref 842, Value.ref 843, Value.int 1326 0, Value.int 616 0, Value.str (Str.ofString "/claim/cut.py") 1327] }
noncomputable def ko_845 (P : Params) : Obj := fnO f_do_try "do_try" (Value.none) (Value.str (Str.ofString "clausemill.control") 1231) (Value.ref 844)
noncomputable def ko_851 (P : Params) : Obj := { cls := Value.type "code", data := Data.fields #[Value.str (Str.ofString "do_retry") 1329, Value.str (Str.ofString "do_retry") 1330, Value.str (Str.ofString "/claim/cut.py") 1331, Value.int 620 0, Value.int 2 0, Value.int 0 0, Value.int 0 0, Value.int 3 0, Value.ref 846, Value.bool true, Value.int 181 0, Value.ref 847, Value.none, Value.ref 848, Value.ref 849, Value.ref 850, Value.int 1334 0, Value.int 620 0, Value.str (Str.ofString "/claim/cut.py") 1335] }
noncomputable def ko_852 (P : Params) : Obj := fnO f_do_retry "do_retry" (Value.none) (Value.str (Str.ofString "clausemill.control") 1231) (Value.ref 851)
noncomputable def ko_858 (P : Params) : Obj := { cls := Value.type "code", data := Data.fields #[Value.str (Str.ofString "do_trust") 1337, Value.str (Str.ofString "do_trust") 1338, Value.str (Str.ofString "/claim/cut.py") 1339, Value.int 625 0, Value.int 2 0, Value.int 0 0, Value.int 0 0, Value.int 3 0, Value.ref 853, Value.bool true, Value.int 181 0, Value.ref 854, Value.none, Value.ref 855, Value.ref 856, Value.ref 857, Value.int 1342 0, Value.int 625 0, Value.str (Str.ofString "/claim/cut.py") 1343] }
noncomputable def ko_859 (P : Params) : Obj := fnO f_do_trust "do_trust" (Value.none) (Value.str (Str.ofString "clausemill.control") 1231) (Value.ref 858)
noncomputable def ko_886 (P : Params) : Obj := { cls := Value.type "code", data := Data.fields #[Value.str (Str.ofString "plain_control_table") 1373, Value.str (Str.ofString "plain_control_table") 1374, Value.str (Str.ofString "/claim/cut.py") 1375, Value.int 649 0, Value.int 0 0, Value.int 0 0, Value.int 0 0, Value.int 3 0, Value.ref 881, Value.bool true, Value.int 181 0, Value.ref 882, Value.none, Value.ref 883, Value.ref 884, Value.ref 885, Value.int 1376 0, Value.int 649 0, Value.str (Str.ofString "/claim/cut.py") 1377] }
noncomputable def ko_887 (P : Params) : Obj := fnO f_plain_control_table "plain_control_table" (Value.none) (Value.str (Str.ofString "clausemill.emulator") 1371) (Value.ref 886)
noncomputable def ko_895 (P : Params) : Obj := { cls := Value.type "tuple", data := Data.seq #[Value.int 100000 1391, Value.int 100000 1392, Value.bool true, Value.int 4096 1393] }
noncomputable def ko_901 (P : Params) : Obj := { cls := Value.type "code", data := Data.fields #[Value.str (Str.ofString "__init__") 1394, Value.str (Str.ofString "Emulator.__init__") 1395, Value.str (Str.ofString "/claim/cut.py") 1396, Value.int 653 0, Value.int 8 0, Value.int 0 0, Value.int 0 0, Value.int 3 0, Value.ref 896, Value.bool true, Value.int 181 0, Value.ref 897, Value.none, Value.ref 898, Value.ref 899, Value.ref 900, Value.int 1407 0, Value.int 653 0, Value.str (Str.ofString "/claim/cut.py") 1408] }
noncomputable def ko_902 (P : Params) : Obj := fnO f_Emulator___init__ "Emulator.__init__" (Value.ref 895) (Value.str (Str.ofString "clausemill.emulator") 1371) (Value.ref 901)
noncomputable def ko_908 (P : Params) : Obj := { cls := Value.type "code", data := Data.fields #[Value.str (Str.ofString "clear") 1410, Value.str (Str.ofString "Emulator.clear") 1411, Value.str (Str.ofString "/claim/cut.py") 1412, Value.int 663 0, Value.int 1 0, Value.int 0 0, Value.int 0 0, Value.int 3 0, Value.ref 903, Value.bool true, Value.int 181 0, Value.ref 904, Value.none, Value.ref 905, Value.ref 906, Value.ref 907, Value.int 1414 0, Value.int 663 0, Value.str (Str.ofString "/claim/cut.py") 1415] }
noncomputable def ko_909 (P : Params) : Obj := fnO f_Emulator_clear "Emulator.clear" (Value.none) (Value.str (Str.ofString "clausemill.emulator") 1371) (Value.ref 908)
noncomputable def ko_915 (P : Params) : Obj := { cls := Value.type "code", data := Data.fields #[Value.str (Str.ofString "backtrack") 1417, Value.str (Str.ofString "Emulator.backtrack") 1418, Value.str (Str.ofString "/claim/cut.py") 1419, Value.int 671 0, Value.int 1 0, Value.int 0 0, Value.int 0 0, Value.int 3 0, Value.ref 910, Value.bool true, Value.int 181 0, Value.ref 911, Value.none, Value.ref 912, Value.ref 913, Value.ref 914, Value.int 1421 0, Value.int 671 0, Value.str (Str.ofString "/claim/cut.py") 1422] }
noncomputable def ko_916 (P : Params) : Obj := fnO f_Emulator_backtrack "Emulator.backtrack" (Value.none) (Value.str (Str.ofString "clausemill.emulator") 1371) (Value.ref 915)
noncomputable def ko_922 (P : Params) : Obj := { cls := Value.type "code", data := Data.fields #[Value.str (Str.ofString "enter") 1424, Value.str (Str.ofString "Emulator.enter") 1425, Value.str (Str.ofString "/claim/cut.py") 1426, Value.int 679 0, Value.int 2 0, Value.int 0 0, Value.int 0 0, Value.int 3 0, Value.ref 917, Value.bool true, Value.int 181 0, Value.ref 918, Value.none, Value.ref 919, Value.ref 920, Value.ref 921, Value.int 1430 0, Value.int 679 0, Value.str (Str.ofString "/claim/cut.py") 1431] }
noncomputable def ko_923 (P : Params) : Obj := fnO f_Emulator_enter "Emulator.enter" (Value.none) (Value.str (Str.ofString "clausemill.emulator") 1371) (Value.ref 922)
noncomputable def ko_929 (P : Params) : Obj := { cls := Value.type "code", data := Data.fields #[Value.str (Str.ofString "start_at") 1433, Value.str (Str.ofString "Emulator.start_at") 1434, Value.str (Str.ofString "/claim/cut.py") 1435, Value.int 687 0, Value.int 3 0, Value.int 0 0, Value.int 0 0, Value.int 3 0, Value.ref 924, Value.bool true, Value.int 181 0, Value.ref 925, Value.none, Value.ref 926, Value.ref 927, Value.ref 928, Value.int 1439 0, Value.int 687 0, Value.str (Str.ofString "/claim/cut.py") 1440] }
noncomputable def ko_930 (P : Params) : Obj := fnO f_Emulator_start_at "Emulator.start_at" (Value.none) (Value.str (Str.ofString "clausemill.emulator") 1371) (Value.ref 929)
noncomputable def ko_936 (P : Params) : Obj := { cls := Value.type "code", data := Data.fields #[Value.str (Str.ofString "step") 1442, Value.str (Str.ofString "Emulator.step") 1443, Value.str (Str.ofString "/claim/cut.py") 1444, Value.int 698 0, Value.int 1 0, Value.int 0 0, Value.int 0 0, Value.int 3 0, Value.ref 931, Value.bool true, Value.int 181 0, Value.ref 932, Value.none, Value.ref 933, Value.ref 934, Value.ref 935, Value.int 1447 0, Value.int 698 0, Value.str (Str.ofString "/claim/cut.py") 1448] }
noncomputable def ko_937 (P : Params) : Obj := fnO f_Emulator_step "Emulator.step" (Value.none) (Value.str (Str.ofString "clausemill.emulator") 1371) (Value.ref 936)
noncomputable def ko_943 (P : Params) : Obj := { cls := Value.type "code", data := Data.fields #[Value.str (Str.ofString "run") 1450, Value.str (Str.ofString "Emulator.run") 1451, Value.str (Str.ofString "/claim/cut.py") 1452, Value.int 707 0, Value.int 1 0, Value.int 0 0, Value.int 0 0, Value.int 3 0, Value.ref 938, Value.bool true, Value.int 181 0, Value.ref 939, Value.none, Value.ref 940, Value.ref 941, Value.ref 942, Value.int 1454 0, Value.int 707 0, Value.str (Str.ofString "/claim/cut.py") 1455] }
noncomputable def ko_944 (P : Params) : Obj := fnO f_Emulator_run "Emulator.run" (Value.none) (Value.str (Str.ofString "clausemill.emulator") 1371) (Value.ref 943)
noncomputable def ko_950 (P : Params) : Obj := { cls := Value.type "code", data := Data.fields #[Value.str (Str.ofString "redo") 1457, Value.str (Str.ofString "Emulator.redo") 1458, Value.str (Str.ofString "/claim/cut.py") 1459, Value.int 712 0, Value.int 1 0, Value.int 0 0, Value.int 0 0, Value.int 3 0, Value.ref 945, Value.bool true, Value.int 181 0, Value.ref 946, Value.none, Value.ref 947, Value.ref 948, Value.ref 949, Value.int 1461 0, Value.int 712 0, Value.str (Str.ofString "/claim/cut.py") 1462] }
noncomputable def ko_951 (P : Params) : Obj := fnO f_Emulator_redo "Emulator.redo" (Value.none) (Value.str (Str.ofString "clausemill.emulator") 1371) (Value.ref 950)
noncomputable def dk_953_0 (P : Params) : List DictEntry := [{ hash := PyData.keyHash P (Str.ofString "__module__"), key := Value.str (Str.ofString "__module__") 1386, val := Value.str (Str.ofString "clausemill.emulator") 1371 }, { hash := PyData.keyHash P (Str.ofString "__firstlineno__"), key := Value.str (Str.ofString "__firstlineno__") 1390, val := Value.int 651 1389 }, { hash := PyData.keyHash P (Str.ofString "__init__"), key := Value.str (Str.ofString "__init__") 1409, val := Value.ref 902 }, { hash := PyData.keyHash P (Str.ofString "clear"), key := Value.str (Str.ofString "clear") 1416, val := Value.ref 909 }, { hash := PyData.keyHash P (Str.ofString "backtrack"), key := Value.str (Str.ofString "backtrack") 1423, val := Value.ref 916 }, { hash := PyData.keyHash P (Str.ofString "enter"), key := Value.str (Str.ofString "enter") 1432, val := Value.ref 923 }, { hash := PyData.keyHash P (Str.ofString "start_at"), key := Value.str (Str.ofString "start_at") 1441, val := Value.ref 930 }, { hash := PyData.keyHash P (Str.ofString "step"), key := Value.str (Str.ofString "step") 1449, val := Value.ref 937 }]
noncomputable def dk_953_1 (P : Params) : List DictEntry := [{ hash := PyData.keyHash P (Str.ofString "run"), key := Value.str (Str.ofString "run") 1456, val := Value.ref 944 }, { hash := PyData.keyHash P (Str.ofString "redo"), key := Value.str (Str.ofString "redo") 1463, val := Value.ref 951 }, { hash := PyData.keyHash P (Str.ofString "__static_attributes__"), key := Value.str (Str.ofString "__static_attributes__") 1474, val := Value.ref 952 }, { hash := PyData.keyHash P (Str.ofString "__doc__"), key := Value.str (Str.ofString "__doc__") 1475, val := Value.none }]
noncomputable def ko_953 (P : Params) : Obj := { cls := Value.type "dict", data := Data.dict (List.toArray (dk_953_0 P ++ dk_953_1 P)) 2 }
noncomputable def ko_954 (P : Params) : Obj := { cls := Value.type "type", data := Data.cls { name := Str.ofString "Emulator", bases := [Value.ref 540], mro := [Value.ref 954, Value.ref 540, Value.type "object"], ns := 953, qualname := Str.ofString "Emulator" }, slots := #[some (Value.ref 888), none, some (Value.str (Str.ofString "Emulator") 1379), some (Value.str (Str.ofString "Emulator") 1387), some (Value.builtin "object.__new__"), some (Value.bool true)] }
noncomputable def ko_962 (P : Params) : Obj := { cls := Value.type "code", data := Data.fields #[Value.str (Str.ofString "_law_digit") 1480, Value.str (Str.ofString "_law_digit") 1481, Value.str (Str.ofString "/claim/cut.py") 1482, Value.int 719 0, Value.int 2 0, Value.int 0 0, Value.int 0 0, Value.int 3 0, Value.ref 957, Value.bool true, Value.int 181 0, Value.ref 958, Value.none, Value.ref 959, Value.ref 960, Value.ref 961, Value.int 1488 0, Value.int 719 0, Value.str (Str.ofString "/claim/cut.py") 1489] }
noncomputable def ko_963 (P : Params) : Obj := fnO f__law_digit "_law_digit" (Value.none) (Value.str (Str.ofString "law_sa0170_01") 1478) (Value.ref 962)
noncomputable def ko_969 (P : Params) : Obj := { cls := Value.type "code", data := Data.fields #[Value.str (Str.ofString "_law_facts") 1491, Value.str (Str.ofString "_law_facts") 1492, Value.str (Str.ofString "/claim/cut.py") 1493, Value.int 726 0, Value.int 2 0, Value.int 0 0, Value.int 0 0, Value.int 3 0, Value.ref 964, Value.bool true, Value.int 181 0, Value.ref 965, Value.none, Value.ref 966, Value.ref 967, Value.ref 968, Value.int 1501 0, Value.int 726 0, Value.str (Str.ofString "/claim/cut.py") 1502] }
noncomputable def ko_970 (P : Params) : Obj := fnO f__law_facts "_law_facts" (Value.none) (Value.str (Str.ofString "law_sa0170_01") 1478) (Value.ref 969)
noncomputable def ko_976 (P : Params) : Obj := { cls := Value.type "code", data := Data.fields #[Value.str (Str.ofString "_law_rule") 1504, Value.str (Str.ofString "_law_rule") 1505, Value.str (Str.ofString "/claim/cut.py") 1506, Value.int 737 0, Value.int 2 0, Value.int 0 0, Value.int 0 0, Value.int 3 0, Value.ref 971, Value.bool true, Value.int 181 0, Value.ref 972, Value.none, Value.ref 973, Value.ref 974, Value.ref 975, Value.int 1510 0, Value.int 737 0, Value.str (Str.ofString "/claim/cut.py") 1511] }
noncomputable def ko_977 (P : Params) : Obj := fnO f__law_rule "_law_rule" (Value.none) (Value.str (Str.ofString "law_sa0170_01") 1478) (Value.ref 976)
noncomputable def ko_981 (P : Params) : Obj := { cls := Value.type "code", data := Data.fields #[Value.str (Str.ofString "_law_answers") 1513, Value.str (Str.ofString "_law_answers") 1514, Value.str (Str.ofString "/claim/cut.py") 1515, Value.int 749 0, Value.int 4 0, Value.int 0 0, Value.int 0 0, Value.int 3 0, Value.ref 978, Value.bool true, Value.int 181 0, Value.ref 979, Value.none, Value.none, Value.none, Value.ref 980, Value.int 1516 0, Value.int 749 0, Value.str (Str.ofString "/claim/cut.py") 1517] }
noncomputable def ko_982 (P : Params) : Obj := fnO f__law_answers "_law_answers" (Value.none) (Value.str (Str.ofString "law_sa0170_01") 1478) (Value.ref 981)
noncomputable def ko_988 (P : Params) : Obj := { cls := Value.type "code", data := Data.fields #[Value.str (Str.ofString "_law_stopped") 1519, Value.str (Str.ofString "_law_stopped") 1520, Value.str (Str.ofString "/claim/cut.py") 1521, Value.int 754 0, Value.int 3 0, Value.int 0 0, Value.int 0 0, Value.int 3 0, Value.ref 983, Value.bool true, Value.int 181 0, Value.ref 984, Value.none, Value.ref 985, Value.ref 986, Value.ref 987, Value.int 1528 0, Value.int 754 0, Value.str (Str.ofString "/claim/cut.py") 1529] }
noncomputable def ko_989 (P : Params) : Obj := fnO f__law_stopped "_law_stopped" (Value.none) (Value.str (Str.ofString "law_sa0170_01") 1478) (Value.ref 988)
noncomputable def ko_993 (P : Params) : Obj := { cls := Value.type "code", data := Data.fields #[Value.str (Str.ofString "law") 1531, Value.str (Str.ofString "law") 1532, Value.str (Str.ofString "/claim/cut.py") 1533, Value.int 769 0, Value.int 1 0, Value.int 0 0, Value.int 0 0, Value.int 3 0, Value.ref 990, Value.bool true, Value.int 181 0, Value.ref 991, Value.none, Value.none, Value.none, Value.ref 992, Value.int 1534 0, Value.int 769 0, Value.str (Str.ofString "/claim/cut.py") 1535] }
noncomputable def ko_994 (P : Params) : Obj := fnO f_law "law" (Value.none) (Value.str (Str.ofString "law_sa0170_01") 1478) (Value.ref 993)
noncomputable def ko_2 (P : Params) : Obj := { cls := Value.none, data := Data.dict #[{ hash := PyData.keyHash P (Str.ofString "type.__subclasses__.Exception.0"), key := Value.str (Str.ofString "type.__subclasses__.Exception.0") 212, val := Value.int 31 0 }, { hash := PyData.keyHash P (Str.ofString "type.__subclasses__.Exception.n"), key := Value.str (Str.ofString "type.__subclasses__.Exception.n") 213, val := Value.int 1 0 }] 2 }
noncomputable def kc_0 (P : Params) : Frag := [(2, ko_2 P), (3, ko_3 P), (30, ko_30 P), (31, ko_31 P), (61, ko_61 P), (67, ko_67 P), (68, ko_68 P), (70, ko_70 P), (71, ko_71 P), (95, ko_95 P), (103, ko_103 P), (109, ko_109 P), (110, ko_110 P), (116, ko_116 P), (117, ko_117 P), (123, ko_123 P), (124, ko_124 P)]
noncomputable def kc_1 (P : Params) : Frag := [(137, ko_137 P), (138, ko_138 P), (144, ko_144 P), (145, ko_145 P), (158, ko_158 P), (159, ko_159 P), (179, ko_179 P), (180, ko_180 P), (186, ko_186 P), (187, ko_187 P), (193, ko_193 P), (194, ko_194 P), (238, ko_238 P), (239, ko_239 P), (295, ko_295 P), (296, ko_296 P)]
noncomputable def kc_2 (P : Params) : Frag := [(390, ko_390 P), (396, ko_396 P), (397, ko_397 P), (403, ko_403 P), (404, ko_404 P), (410, ko_410 P), (411, ko_411 P), (417, ko_417 P), (418, ko_418 P), (452, ko_452 P), (453, ko_453 P), (459, ko_459 P), (460, ko_460 P), (466, ko_466 P), (467, ko_467 P), (480, ko_480 P)]
noncomputable def kc_3 (P : Params) : Frag := [(481, ko_481 P), (487, ko_487 P), (488, ko_488 P), (494, ko_494 P), (495, ko_495 P), (501, ko_501 P), (502, ko_502 P), (508, ko_508 P), (509, ko_509 P), (515, ko_515 P), (516, ko_516 P), (522, ko_522 P), (523, ko_523 P), (529, ko_529 P), (530, ko_530 P), (539, ko_539 P)]
noncomputable def kc_4 (P : Params) : Frag := [(540, ko_540 P), (550, ko_550 P), (551, ko_551 P), (557, ko_557 P), (558, ko_558 P), (564, ko_564 P), (565, ko_565 P), (571, ko_571 P), (572, ko_572 P), (599, ko_599 P), (600, ko_600 P), (613, ko_613 P), (614, ko_614 P), (690, ko_690 P), (691, ko_691 P), (760, ko_760 P)]
noncomputable def kc_5 (P : Params) : Frag := [(761, ko_761 P), (767, ko_767 P), (768, ko_768 P), (774, ko_774 P), (775, ko_775 P), (781, ko_781 P), (782, ko_782 P), (788, ko_788 P), (789, ko_789 P), (795, ko_795 P), (796, ko_796 P), (809, ko_809 P), (810, ko_810 P), (823, ko_823 P), (824, ko_824 P), (837, ko_837 P)]
noncomputable def kc_6 (P : Params) : Frag := [(838, ko_838 P), (844, ko_844 P), (845, ko_845 P), (851, ko_851 P), (852, ko_852 P), (858, ko_858 P), (859, ko_859 P), (886, ko_886 P), (887, ko_887 P), (895, ko_895 P), (901, ko_901 P), (902, ko_902 P), (908, ko_908 P), (909, ko_909 P), (915, ko_915 P), (916, ko_916 P)]
noncomputable def kc_7 (P : Params) : Frag := [(922, ko_922 P), (923, ko_923 P), (929, ko_929 P), (930, ko_930 P), (936, ko_936 P), (937, ko_937 P), (943, ko_943 P), (944, ko_944 P), (950, ko_950 P), (951, ko_951 P), (953, ko_953 P), (954, ko_954 P), (962, ko_962 P), (963, ko_963 P), (969, ko_969 P), (970, ko_970 P)]
noncomputable def kc_8 (P : Params) : Frag := [(976, ko_976 P), (977, ko_977 P), (981, ko_981 P), (982, ko_982 P), (988, ko_988 P), (989, ko_989 P), (993, ko_993 P), (994, ko_994 P)]
noncomputable def K0 (P : Params) : Frag := kc_0 P ++ kc_1 P ++ kc_2 P ++ kc_3 P ++ kc_4 P ++ kc_5 P ++ kc_6 P ++ kc_7 P ++ kc_8 P
noncomputable def as0 : List Addr := [2, 3, 30, 31, 61, 67, 68, 70, 71, 95, 103, 109, 110, 116, 117, 123, 124, 137, 138, 144, 145, 158, 159, 179, 180, 186, 187, 193, 194, 238, 239, 295, 296, 390, 396, 397, 403, 404, 410, 411, 417, 418, 452, 453, 459, 460, 466, 467, 480, 481, 487, 488, 494, 495, 501, 502, 508, 509, 515, 516, 522, 523, 529, 530, 539, 540, 550, 551, 557, 558, 564, 565, 571, 572, 599, 600, 613, 614, 690, 691, 760, 761, 767, 768, 774, 775, 781, 782, 788, 789, 795, 796, 809, 810, 823, 824, 837, 838, 844, 845, 851, 852, 858, 859, 886, 887, 895, 901, 902, 908, 909, 915, 916, 922, 923, 929, 930, 936, 937, 943, 944, 950, 951, 953, 954, 962, 963, 969, 970, 976, 977, 981, 982, 988, 989, 993, 994]
end
noncomputable section
open PySem PySem.W PyProof.Rows PySem.Calls
noncomputable def o11 : Obj := { cls := .type "tuple", data := .seq #[] }
noncomputable def o12 : Obj := { cls := .none, data := .fields #[] }
noncomputable def o13 : Obj := { cls := .type "code", data := .fields #[.str "<module>" 182, .str "<module>" 183, .str "/claim/cut.py" 184, .int 1 0, .int 0 0, .int 0 0, .int 0 0,
        .int 0 0, .ref 11, .bool false, .int 181 0, .ref 12, .none, .none, .none, .none, .int 185 0, .int 1 0, .str "/claim/cut.py" 186] }
noncomputable def o14 : Obj := { cls := .type "frame", slots := #[some (.ref 13), some (.ref 3), some (.ref 3), none, some (.str "__main__" 164), none, some (.ref 0)] }
noncomputable def treeOf (l : List Obj) : Nat → Nat → Nat → BT
  | 0, _, _ => .nil
  | f + 1, a, b => match l[b]? with
    | some o => .node o (treeOf l f (2 * a) (a + b)) (treeOf l f (2 * a) (2 * a + b))
    | none => .nil
noncomputable def L0 (P : Params) : List Obj := [boot_o_0 P, boot_o_1 P, boot_o_2 P, boot_o_3 P, boot_o_4 P, boot_o_5 P, boot_o_6 P, boot_o_7 P, boot_o_8 P, boot_o_9 P, boot_o_10 P, o11, o12, o13, o14]
noncomputable def S0T (w : World) (os : OsState) : SharedT := ⟨treeOf (L0 w.params) 6 1 0, 15, {}, #[], {}, 187, os⟩
noncomputable def env0 : Env := { scope := pw.main.scope, locals := mainNs, globals := mainNs, cells := [], code := .ref 13, frame := some 14 }
noncomputable def body0 : List Stmt := behindTheImports pw
noncomputable def c0 : Code := .body (behindTheImports pw) env0
noncomputable def p0 : Pos := ⟨0, 0, 0, 0⟩
noncomputable def ann0 : Option Value := some (.ref 6)
noncomputable def preL (w : World) (os : OsState) := topGo treeTable pw w 11 ann0 12 ⟨boot_heap w.params, #[], boot_drawn, boot_toks, os⟩ (topStub pw)
noncomputable def preR (w : World) (os : OsState) : Option (Shared × Thread) := some ((S0T w os).abs, ⟨denote treeTable c0, c0, p0, [topFrame p0]⟩)
theorem pre_ok : preL = preR := by
  funext w os
  kernel_rfl
noncomputable def blkL (w : World) (os : OsState) := segRunT treeTable pw w 11 ann0 1 1 (S0T w os) (blockOf body0 env0 c0 p0 [topFrame p0])
noncomputable def blkR (w : World) (os : OsState) : Option (Flow × SharedT × Code × Pos) := some (.next, S0T w os, c0, p0)
theorem blk_ok : blkL = blkR := by
  funext w os
  kernel_rfl
noncomputable def q0 : Program := view pw [106]
noncomputable def loose0 : List Str := pw.boundNames.filter fun n => n != ("law" : Str)
noncomputable def mods0 : List Str := importedModules pw.main.body
noncomputable def Xt0 (s : Shared) : Bool := xlAt q0 [] s && recOk [] s
noncomputable def Yf0 (s : Shared) : List (Option Obj) := as0.map s.heap.get?
noncomputable def Ya0 (w : World) : List (Option Obj) := (K0 w.params).map fun p => some p.2
noncomputable def seeS (h₀ : Heap) (s : Shared) := (staticsOk mods0 h₀ s.heap && namesBound pw s.heap && gensDone s && laidKept h₀ s.heap, openSeen q0 loose0 mods0 Xt0 true s, Yf0 s)
noncomputable def isNext : Flow → Bool | .next => true | _ => false
noncomputable def seeR (h₀ : Heap) (r : Flow × SharedT × Code × Pos) := (isNext r.1, r.2.2.1, seeS h₀ r.2.1.abs)
noncomputable def envF (pr : Program) : Env := { scope := pr.main.scope, locals := mainNs, globals := mainNs, cells := [], code := .ref 13, frame := some 14 }
noncomputable def runF (pr q : Program) (lo md : List Str) (bd : List Stmt) (L : List Obj) (h₀ : Heap) (cf : Code) (w : World) (os : OsState) :=
  (segRunT treeTable pr w 11 ann0 1 5920 ⟨treeOf L 6 1 0, 15, {}, #[], {}, 187, os⟩ (piecesOf bd (envF pr) cf p0 [topFrame p0])).map fun r =>
    (isNext r.1, r.2.2.1, ((staticsOk md h₀ r.2.1.abs.heap && namesBound pr r.2.1.abs.heap && gensDone r.2.1.abs && laidKept h₀ r.2.1.abs.heap), openSeen q lo md (fun s => xlAt q [] s && recOk [] s) true r.2.1.abs, as0.map r.2.1.abs.heap.get?))
noncomputable def runL (w : World) (os : OsState) := (segRunT treeTable pw w 11 ann0 1 5920 (S0T w os) (piecesOf body0 env0 c0 p0 [topFrame p0])).map (seeR (boot_heap w.params))
noncomputable def runR (w : World) (_os : OsState) := some (true, c0, true, openGood q0 loose0, Ya0 w)
theorem runF_L : runL = fun w os => runF pw q0 loose0 mods0 body0 (L0 w.params) (boot_heap w.params) c0 w os := rfl
open PySem.W.Fast in
lay_quick Mine.runF
theorem run_tw : (fun w os => PySem.W.Fast.tw14355516760170610614 pw q0 loose0 mods0 body0 (L0 w.params) (boot_heap w.params) c0 w os) = runR := by
  funext w os
  kernel_rfl
theorem top_ok : runL = runR := by
  rw [runF_L, PySem.W.Fast.te14355516760170610614]
  exact run_tw
end
noncomputable section
open PySem PySem.W PyProof.Rows PySem.Calls
theorem hd_k2 (w : World) (s : Shared) (p' : Pos) : topRun treeTable pw w 11 ann0 3 s ⟨doneF .next, c0, p', [topFrame p0]⟩ = some s := by rfl
theorem hd_open : opening pw = plainProg pw.main.scope.names := by kernel_rfl
theorem hd_e2 (P : Params) : (boot_heap P).objs.size = 11 := by kernel_rfl
theorem hd_e1 (P : Params) : (boot_heap P).isNs mainGlobals = true := by kernel_rfl
theorem hd_e3 (P : Params) : (boot_heap P).nsMap mainGlobals "__annotations__" = ann0 := by kernel_rfl
theorem hd_fence (s : Shared) : fenceModules? pw s = some s := by kernel_rfl
theorem hd_boot (w : World) : (fencedOpening treeTable pw w 6600).map (fun s => (s.heap, s.gens, s.drawn, s.toks)) = some (boot_heap w.params, Array.mk [], boot_drawn, boot_toks) := boot_open (p := pw) (N := 6600) hd_open rfl hd_fence w
theorem hd_seg {w : World} {os : OsState} {sT : SharedT} {p' : Pos} (hseg : segRunT treeTable pw w 11 ann0 1 5920 (S0T w os) (piecesOf body0 env0 c0 p0 [topFrame p0]) = some (.next, sT, c0, p')) :
    topRun treeTable pw w 11 ann0 (5920 + 3) (S0T w os).abs (restOf body0 env0 c0 p0 [topFrame p0]) = some sT.abs := by
  have a1 := segRun_of hseg
  have a2 := piece_app (rest := []) a1 (piece_nil (hd_k2 w sT.abs p'))
  rw [List.append_nil] at a2
  exact a2
theorem hd_blk (w : World) (os : OsState) : segRun treeTable pw w 11 ann0 1 1 (S0T w os).abs (blockOf body0 env0 c0 p0 [topFrame p0]) = some (.next, (S0T w os).abs, c0, p0) := segRun_of (congrFun (congrFun blk_ok w) os)
theorem hd_go {w : World} {os : OsState} {s : Shared} (a2 : topRun treeTable pw w 11 ann0 (5920 + 3) (S0T w os).abs (restOf body0 env0 c0 p0 [topFrame p0]) = some s) :
    topRun treeTable pw w 11 ann0 (12 + (1 + (5920 + 3))) ⟨boot_heap w.params, #[], boot_drawn, boot_toks, os⟩ (topStub pw) = some s := go_top (congrFun (congrFun pre_ok w) os) (piece_block (hd_blk w os) a2)
theorem hd_6600 {w : World} {os : OsState} {s : Shared} (a2 : topRun treeTable pw w 11 ann0 (5920 + 3) (S0T w os).abs (restOf body0 env0 c0 p0 [topFrame p0]) = some s) :
    topRun treeTable pw w 11 ann0 6600 ⟨boot_heap w.params, #[], boot_drawn, boot_toks, os⟩ (topStub pw) = some s := topRun_mono 664 _ _ _ _ (hd_go a2)
end
noncomputable section
open PySem PySem.W PyProof.Rows PySem.Calls
theorem hd_run (w : World) (os : OsState) : ∃ sT p', segRunT treeTable pw w 11 ann0 1 5920 (S0T w os) (piecesOf body0 env0 c0 p0 [topFrame p0]) = some (.next, sT, c0, p') ∧ seeS (boot_heap w.params) sT.abs = (true, openGood q0 loose0, Ya0 w) := by
  have run : runL w os = runR w os := congrFun (congrFun top_ok w) os
  have run : (segRunT treeTable pw w 11 ann0 1 5920 (S0T w os) (piecesOf body0 env0 c0 p0 [topFrame p0])).map (seeR (boot_heap w.params)) = some (true, c0, true, openGood q0 loose0, Ya0 w) := run
  generalize segRunT treeTable pw w 11 ann0 1 5920 (S0T w os) (piecesOf body0 env0 c0 p0 [topFrame p0]) = z at run ⊢
  generalize hg : openGood q0 loose0 = good at run ⊢
  generalize hy : Ya0 w = ya at run ⊢
  generalize hh : boot_heap w.params = bh at run ⊢
  cases z with
  | none => cases run
  | some r =>
    obtain ⟨f, sT, c', p'⟩ := r
    have run := Option.some.inj run
    have h1 : isNext f = true := congrArg Prod.fst run
    have h2 : c' = c0 := congrArg (fun z => z.2.1) run
    have h3 : seeS bh sT.abs = (true, good, ya) := congrArg (fun z => z.2.2) run
    cases f with
    | next => exact ⟨sT, p', by rw [h2], h3⟩
    | _ => cases h1
theorem hd_from {w : World} {s₀ s : Shared} (e1 : s₀.heap.isNs mainGlobals = true) (e4 : s₀.gens = #[]) (e2 : s₀.heap.objs.size = 11) (e3 : s₀.heap.nsMap mainGlobals "__annotations__" = ann0)
    (hr : topRun treeTable pw w 11 ann0 6600 s₀ (topStub pw) = some s) (hs : (staticsOk (importedModules pw.main.body) s₀.heap s.heap && namesBound pw s.heap && gensDone s && laidKept s₀.heap s.heap) = true) :
    topFrom treeTable pw w 6600 s₀ = some s := by
  unfold topFrom
  rw [e1, e2, e3, e4]
  show (topRun treeTable pw w 11 ann0 6600 s₀ (topStub pw)).bind _ = _
  rw [hr]
  show (match staticsOk (importedModules pw.main.body) s₀.heap s.heap && namesBound pw s.heap && gensDone s && laidKept s₀.heap s.heap with | true => some s | false => none) = _
  rw [hs]
theorem hd_ends {w : World} {s₀ s : Shared} (h₀ : fencedOpening treeTable pw w 6600 = some s₀) (fr : topFrom treeTable pw w 6600 s₀ = some s) : openEnds treeTable pw w 6600 = some s := Option.bind_eq_some_iff.mpr ⟨s₀, h₀, fr⟩
theorem hd_pack {w : World} {s : Shared} (hsee : seeS (boot_heap w.params) s = (true, openGood q0 loose0, Ya0 w)) :
    (staticsOk (importedModules pw.main.body) (boot_heap w.params) s.heap && namesBound pw s.heap && gensDone s && laidKept (boot_heap w.params) s.heap) = true ∧ (openSeen q0 loose0 (importedModules pw.main.body) Xt0 true s, Yf0 s) = (openGood q0 loose0, Ya0 w) := by
  unfold seeS mods0 at hsee
  exact ⟨congrArg Prod.fst hsee, congrArg Prod.snd hsee⟩
theorem hd_all (w : World) : ∃ s, openEnds treeTable pw w 6600 = some s ∧ (openSeen q0 loose0 (importedModules pw.main.body) Xt0 true s, Yf0 s) = (openGood q0 loose0, Ya0 w) := by
  obtain ⟨s₀, h₀, e₀⟩ := Option.map_eq_some_iff.mp (hd_boot w)
  obtain ⟨hp, gens, drawn, toks, os⟩ := s₀
  simp only [Prod.mk.injEq] at e₀
  obtain ⟨rfl, rfl, rfl, rfl⟩ := e₀
  obtain ⟨sT, p', hseg, hsee⟩ := hd_run w os
  have a := hd_6600 (hd_seg hseg)
  generalize sT.abs = s at a hsee
  obtain ⟨hst, hop⟩ := hd_pack hsee
  exact ⟨s, hd_ends h₀ (hd_from (s₀ := ⟨boot_heap w.params, #[], boot_drawn, boot_toks, os⟩) (hd_e1 w.params) rfl (hd_e2 w.params) (hd_e3 w.params) a hst), hop⟩
theorem left0 : LeftO pw q0 loose0 Xt0 Yf0 Ya0 6600 := fun w =>
  Exists.elim (hd_all w) fun s h => (congrArg (Option.map fun s => (openSeen q0 loose0 (importedModules pw.main.body) Xt0 true s, Yf0 s)) h.1).trans (congrArg some h.2)
end
section
open PySem PySem.W PyProof.Rows PySem.Calls
noncomputable def saidF (l : OpenLaw) : Bool := l.wellSaid
open PySem.W.Fast in
lay_quick Mine.saidF
theorem said_tw : PySem.W.Fast.tw17042165093326287127 PySem.Challenge.rw_sa0170_01 = true := by kernel_rfl
theorem law_said : PySem.Challenge.rw_sa0170_01.wellSaid = true := by
  show saidF PySem.Challenge.rw_sa0170_01 = true
  rw [PySem.W.Fast.te17042165093326287127]
  exact said_tw
end
section
open PySem PySem.W PyProof.Rows PySem.Calls
theorem K0_as (P : Params) : as0 = (K0 P).map (·.1) := by kernel_rfl
noncomputable def LawWalk : Prop := ∀ (w : World) (s : Shared) (mean : ExcName → Option Value) (mg mb : Str → Option Value) (a : Addr) (vs : List Value) (ns : List Int), (K0 w.params).In s.heap → Top q0 (looseW q0 loose0) mean mg mb s.heap → s.heap.IsList a vs.toArray → IntsAre vs ns → ns.length ≤ 63 →
  ∀ R : Result → Shared → Prop, (∀ h' t', (∀ b o, s.heap.get? b = some o → h'.get? b = some o) → R (.ok (.ret (.bool true))) { s with heap := h', toks := t' }) → codeAny (model pw w) callerA (.call (.ref 994) ⟨[.ref a], []⟩) R s
theorem law_name (P : Params) : nsIn (K0 P) mainGlobals (Str.ofString "law") = some (some (.ref 994)) := by kernel_rfl
set_option maxHeartbeats 8000000 in
theorem law_of_walk (hw : LawWalk) : PySem.Challenge.rw_sa0170_01.Holds := by
  w_on
  refine holds_law law_said fun said => ?_
  refine PySem.W.holds_open (q := q0) (loose := loose0) (Xt := Xt0) (XP := XL q0 []) (Yf := Hook.obs (kHook K0 as0 K0_as)) (Ya := Hook.val (kHook K0 as0 K0_as)) (YP := Hook.says (kHook K0 as0 K0_as)) (N := 6600) left0 (Hook.of _) (Hook.keeps _) (fun s e => xl_of s (Bool.and_eq_true_iff.mp e).1) XL.keeps (by rfl) (by rfl) (by rfl) (fun s e => recFacts_of (Bool.and_eq_true_iff.mp e).2) (by rfl) (by assumption) (by decide +kernel) ⟨rfl, rfl, rfl, rfl, rfl, by decide +kernel⟩ ?hw ?hc
  case hw => w_witness2
  case hc =>
    intro w s₀ s₁ mg mb G Y fa o pm cd doc dV kV ho hd hcd hD hmg hg args vals as hpre hlay hrd hwl hlo
    have KX : (K0 w.params).In s₁.heap := kIn_of Y
    have T := G.T
    clear hd hcd hD ho
    have ef : mg (Str.ofString "law") = some (.ref 994) := mg_of KX T.g (law_name w.params)
    have ef2 : (Value.ref fa) = .ref 994 := Option.some.inj (hmg.symm.trans ef)
    rw [ef2]
    clear hmg ef ef2 Y G
    wrow_args hpre hlay hrd hwl hlo
    rename_i ns _ _ _ _ _ _ _ a vs _ hL _ _ _ hI _ hlen _
    refine enter_call ?_
    refine hw w s₁ _ mg mb a vs ns KX T hL hI (by omega) _ fun h' t' hk => GoodW.toG ⟨.inl ⟨.bool true, .bool true, [], rfl, fun _ => rfl, .bool true, ?_, unshared_nil⟩, hk, rfl, hg⟩
    wrow_post
end
section
open PySem PySem.W PyProof.Rows PySem.Calls PySem.Spec
noncomputable abbrev excO (C D t : Addr) (hd : Value) : Obj := { cls := .ref C, dict := some D, data := .fields #[.ref t, hd, .none, .none, .bool false, .none], slots := #[] }
noncomputable abbrev frs (l : List Env) : List Addr := l.filterMap (·.frame)
structure Fly (hr : Heap) (fs : List Addr) (h : Heap) (C e D t : Addr) (hd fl : Value) : Prop where
  keep : ∀ a o, hr.get? a = some o → a ∉ fs → a ≠ e → h.get? a = some o
  slot : ∀ a o, hr.get? a = some o → a ∈ fs → ∃ sl, h.get? a = some { o with slots := sl }
  exc : h.get? e = some (excO C D t hd)
  ne : e ∉ fs
  old : ∃ o, hr.get? e = some o
  tb : hd = .none ∨ ∃ T oT ts, hd = .ref T ∧ hr.get? T = none ∧ h.get? T = some oT ∧ oT.data = .fields ts ∧ ts[3]? = some fl
theorem Fly.start {h : Heap} {fs : List Addr} {C e D t : Addr} (he : h.get? e = some (excO C D t .none)) (hn : e ∉ fs) : Fly h fs h C e D t .none .none :=
  ⟨fun _ _ x _ _ => x, fun _ o x _ => ⟨o.slots, x⟩, he, hn, ⟨_, he⟩, .inl rfl⟩
theorem Fly.more {hr h : Heap} {fs gs : List Addr} {C e D t : Addr} {hd fl : Value} (F : Fly hr fs h C e D t hd fl) (h1 : ∀ a ∈ fs, a ∈ gs) (hn : e ∉ gs) : Fly hr gs h C e D t hd fl := by
  refine ⟨fun a o x y z => F.keep a o x (fun q => y (h1 a q)) z, fun a o x y => ?_, F.exc, hn, F.old, F.tb⟩
  by_cases q : a ∈ fs
  · exact F.slot a o x q
  · exact ⟨o.slots, F.keep a o x q fun z => hn (z ▸ y)⟩
section
variable {M : Model} {A : Around} {E : Value → Shared → Prop} {s : Shared} {hr base : Heap} {fs : List Addr} {C e D t : Addr} {hd fl : Value} {env : Env} {outer : List Env} {L : Addr} {Q : Unit → Shared → Prop}
theorem fly_entry {hadNext : Bool} (hfr : A.frames = some (env :: outer)) (hl : s.heap.FunFrames base (env :: outer)) (hf : env.frame = some L) (hin : ∀ a ∈ frs (env :: outer), a ∈ fs) (F : Fly hr fs s.heap C e D t hd fl)
    (h : ∀ h' T, Fly hr fs h' C e D t (.ref T) (rawInt L) → Q () { s with heap := h' }) :
    wpAny M A (do let a ← frameOf env; let pl ← entryPlaceOf L hadNext; let b ← EntryCells.newEntry hd a .none (rawInt L) .none pl; setField (.ref e) 1 b) Q E s := by
  refine wpAny_bind (wpAny_frameOf_fun hfr hl hf fun h₁ hs => ?_)
  refine wpAny_bind (wpAny_entryPlaceOf fun pl hpl => ?_)
  unfold EntryCells.newEntry newFields
  refine wpAny_bind (wpAny_newObj_type ?_ (hpl.sizeOk5 _ _ _ _ _))
  have he : e ∉ frs (env :: outer) := fun q => F.ne (hin e q)
  have he₁ : h₁.get? e = some (excO C D t hd) := (hs.2.1 e he).trans F.exc
  let oT : Obj := { cls := .type "traceback", dict := none, data := .fields ([hd, .ref L, .none, rawInt L, .none] ++ (if pl.isEmpty then List.replicate 6 Value.none else pl)).toArray }
  have he₂ : (h₁.push oT).get? e = some (excO C D t hd) := Heap.get?_push_of_some _ he₁
  refine wpAny_setField he₂ rfl (by show 1 < 6; decide) (h _ h₁.objs.size ?_)
  have hTe : h₁.objs.size ≠ e := Nat.ne_of_gt (Heap.lt_size he₁)
  have lt : ∀ a o, hr.get? a = some o → a ≠ h₁.objs.size := fun a o x q => by
    obtain ⟨o', ho'⟩ : ∃ o', s.heap.get? a = some o' := by
      by_cases h1 : a ∈ fs
      · obtain ⟨sl, z⟩ := F.slot a o x h1; exact ⟨_, z⟩
      · by_cases h2 : a = e
        · exact ⟨_, h2 ▸ F.exc⟩
        · exact ⟨_, F.keep a o x h1 h2⟩
    have := Heap.lt_size ho'
    rw [q, hs.1] at this
    exact Nat.lt_irrefl _ this
  have up : ∀ a o, a ≠ e → h₁.get? a = some o → ((h₁.push oT).update e (Obj.mapFields (·.setIfInBounds 1 (Value.ref h₁.objs.size)))).get? a = some o := fun a o hn x => by
    rw [Heap.get?_update_other _ _ (Ne.symm hn)]
    exact Heap.get?_push_of_some _ x
  refine ⟨fun a o x h1 h2 => up a o h2 ((hs.2.1 a fun q => h1 (hin a q)).trans (F.keep a o x h1 h2)), fun a o x h1 => ?_, ?_, F.ne, F.old, .inr ⟨h₁.objs.size, oT, _, rfl, ?_, ?_, rfl, ?_⟩⟩
  · obtain ⟨sl, z⟩ := F.slot a o x h1
    obtain ⟨sl2, z2⟩ := hs.2.2 a _ z
    exact ⟨sl2, up a _ (fun q => F.ne (q ▸ h1)) z2⟩
  · rw [Heap.get?_update_self _ he₂ rfl]; rfl
  · cases q : hr.get? h₁.objs.size with
    | none => rfl
    | some o => exact absurd rfl (lt _ o q)
  · rw [Heap.get?_update_other _ _ (Ne.symm hTe)]
    exact Heap.get?_push_size _ rfl
  · first
      | (simp; done)
      | (rcases hpl with rfl | ⟨_, _, _, _, _, _, _, rfl⟩ <;> simp)
theorem fly_clear {T : Addr} {x : Value} (F : Fly hr fs s.heap C e D t (.ref T) fl) (h : ∀ h', Fly hr fs h' C e D t (.ref T) x → (∀ l, s.heap.FunFrames base l → h'.FunFrames base l) → Q () { s with heap := h' }) :
    wpAny M A (setField (.ref T) 3 x) Q E s := by
  rcases F.tb with q | ⟨T', oT, ts, q, hT, hT', hd', h3⟩
  · cases q
  · cases q
    have h3' : 3 < ts.size := (Array.getElem?_eq_some_iff.mp h3).1
    refine wpAny_setField hT' hd' h3' (h _ ?_ ?_)
    · have oth : ∀ a, a ≠ T → (s.heap.update T (Obj.mapFields (·.setIfInBounds 3 x))).get? a = s.heap.get? a := fun a q => Heap.get?_update_other _ _ (Ne.symm q)
      have nT : ∀ a o, hr.get? a = some o → a ≠ T := fun a o y z => by rw [z, hT] at y; cases y
      obtain ⟨oe, hoe⟩ := F.old
      refine ⟨fun a o y z w => (oth a (nT a o y)).trans (F.keep a o y z w), fun a o y z => ?_, (oth e (nT e oe hoe)).trans F.exc, F.ne, F.old, .inr ⟨T, _, _, rfl, hT, Heap.get?_update_self _ hT' (Obj.isFreed_of_fields (Obj.data_mapFields hd' _)), Obj.data_mapFields hd' _, by simp [h3']⟩⟩
      obtain ⟨sl, k⟩ := F.slot a o y z
      exact ⟨sl, (oth a (nT a o y)).trans k⟩
    · intro l hl
      refine hl.of_keeps fun b o hb hnf => ⟨o, ?_, rfl⟩
      rw [Heap.get?_update_other _ _ fun q => ?_]
      · exact hb
      · subst q
        rw [hb] at hT'
        cases hT'
        exact hnf _ hd'
theorem fly_note (hfr : A.frames = some (env :: outer)) (hl : s.heap.FunFrames base (env :: outer)) (hf : env.frame = some L) (hin : ∀ a ∈ frs (env :: outer), a ∈ fs) (F : Fly hr fs s.heap C e D t hd .none)
    (h : ∀ h' T, Fly hr fs h' C e D t (.ref T) (rawInt L) → Q () { s with heap := h' }) : wpAny M A (noteFrame (.ref e) env) Q E s := by
  unfold noteFrame
  simp only [hf]
  refine wpAny_bind (wpAny_field F.exc rfl (x := hd) rfl ?_)
  rcases F.tb with rfl | ⟨T, oT, ts, rfl, hT, hT', hd', h3⟩
  · rw [if_neg (by decide)]
    exact fly_entry hfr hl hf hin F h
  · rw [if_pos (show (Value.ref T != Value.none) = true from by simp)]
    refine wpAny_bind (wpAny_field hT' hd' h3 ?_)
    rw [if_neg (show ¬ ((Value.none == rawInt L) = true) from by simp [rawInt])]
    refine wpAny_bind (fly_clear (base := base) F fun h' F' k => ?_)
    exact fly_entry (s := { s with heap := h' }) hfr (k _ hl) hf hin F' h
theorem fly_again {T : Addr} (hf : env.frame = some L) (F : Fly hr fs s.heap C e D t (.ref T) (rawInt L)) (h : Q () s) : wpAny M A (noteFrame (.ref e) env) Q E s := by
  unfold noteFrame
  simp only [hf]
  refine wpAny_bind (wpAny_field F.exc rfl (x := .ref T) rfl ?_)
  rw [if_pos (show (Value.ref T != Value.none) = true from by simp)]
  rcases F.tb with q | ⟨T', oT, ts, q, hT, hT', hd', h3⟩
  · cases q
  · cases q
    refine wpAny_bind (wpAny_field hT' hd' h3 ?_)
    rw [if_pos (show (rawInt L == rawInt L) = true from by simp)]
    exact wpAny_pure h
theorem fly_down {T : Addr} (F : Fly hr fs s.heap C e D t (.ref T) fl) (h : ∀ h', Fly hr fs h' C e D t (.ref T) .none → (∀ l, s.heap.FunFrames base l → h'.FunFrames base l) → Q () { s with heap := h' }) : wpAny M A (setFlight (.ref e) none) Q E s := by
  unfold setFlight
  refine wpAny_bind (wpAny_field F.exc rfl (x := .ref T) rfl ?_)
  rw [if_pos (show (Value.ref T != Value.none) = true from by simp)]
  exact fly_clear F h
theorem fly_leave (hfr : A.frames = some (env :: outer)) (hl : s.heap.FunFrames base (env :: outer)) (hf : env.frame = some L) (hin : ∀ a ∈ frs (env :: outer), a ∈ fs) (F : Fly hr fs s.heap C e D t hd .none)
    (h : ∀ h' T, Fly hr fs h' C e D t (.ref T) .none → Q () { s with heap := h' }) : wpAny M A (leaving env (.ref e)) Q E s := by
  unfold leaving
  refine wpAny_bind (fly_note hfr hl hf hin F fun h' T F' => ?_)
  exact fly_down (base := base) (s := { s with heap := h' }) F' fun h'' F'' _ => h h'' T F''
end
end
section
open PySem PySem.W PyProof.Rows PySem.Calls PySem.Spec
structure Inside (c c' : Cx) (m : Str → Option Value) : Prop where
  stay : c.h₀.StaysIn c'.h₀
  ns : c'.h₀.Ns c.L m
  above : c.h₀.objs.size ≤ c.L
theorem Inside.back {W : Wd} {c c' : Cx} {m m' : Str → Option Value} {H' : Hp} {h' : Heap} {x' : LW} (I : Inside c c' m) (A : At W c' m' H' h' x') : At W c m H' h' x' := by
  obtain ⟨oL, es, ep, hL, r⟩ := I.ns
  refine ⟨⟨⟨oL, es, ep, A.F.keep _ _ hL, r⟩, fun b o e => A.F.keep b o (I.stay b o e), I.above⟩, fun p hp => ⟨(A.N p hp).1, fun q => ?_, ?_⟩, A.ok⟩
  · have := (A.N p hp).2.2; rw [q, hL] at this; cases this
  · cases q : c.h₀.get? p.1 with
    | none => rfl
    | some o => have := (A.N p hp).2.2; rw [I.stay _ _ q] at this; cases this
structure Callee (W : Wd) (sc sc' : Scope) (c c' : Cx) (m : Str → Option Value) : Prop where
  out : c'.outer = c.env sc :: c.outer
  base : c'.base = c.base
  stay : c.h₀.StaysIn c'.h₀
  at_ : ∃ o, c'.h₀.get? c.L = some o
  back : ∀ {m' : Str → Option Value} {H' : Hp} {h' : Heap} {x' : LW}, At W c' m' H' h' x' → At W c m H' h' x'
  units : c'.A.units = c.A.units + 3
  dep : c'.A.depth = c.A.depth + 1
  hand : c'.A.handled = c.A.handled
  ins : Inside c c' m
section
variable {W : Wd} {b : Bool} {d : Nat} {sc : Scope} {fr fr' : Fr2} {H H' : Hp} {v : AV} {p : Pos} {fl : Fl}
theorem callYD {f : Addr} {name qual : Str} {params : Arguments} {body : List PySem.Stmt} {scope : Scope} {dV kV doc pm cdv ct oc : Value} {an od : Option Addr} {osl : Array (Option Value)} {args args' : List AV} {ps ls : List Str}
    {c : Cx} (O : CxOk W b (d + 1) sc c) {s : Shared} {m : Str → Option Value} {x : LW} (A : At W c m H s.heap x) {us : List Value} (hus : VRs W.kp x args us) {R : Result → Shared → Prop}
    (hf : W.K.lookup f = some ⟨oc, od, .func (fnOf name qual params body scope dV kV doc pm an cdv ct), osl⟩) (hcd : codeIn W.K cdv qual = true)
    (hbind : W.K.In s.heap → ∃ vs, VRs W.kp x args' vs ∧ BindsTo s (fnOf name qual params body scope dV kV doc pm an cdv ct) ⟨us, []⟩ (ps.zip vs)) (hloc : ps.all (fun y => scope.names.lookup y == some .local) = true)
    (hn : args'.length = ps.length) (nd : (ps ++ ls).Nodup) (hcell : ∀ x ∈ scope.names, x.2 ≠ .cell) (hco : scope.isCoroutine = false) (hgen : scope.isGenerator = false) (hk : scope.kind = .function)
    (h : ∀ c', CxOk W b d scope c' → Callee W sc scope c c' m → ∀ h₁ t₁ m', At W c' m' H h₁ x → FrR W.kp c' x (startFr ps ls args') m' →
      wpAny (model W.prog W.w) c'.A (execs body (c'.env scope)) (fun fl s' => R (.ok (.ret (match fl with | .ret v => v | _ => .none))) s')
        (fun e s' => wpAny (model W.prog W.w) c'.A (leaving (c'.env scope) e) (fun _ s'' => R (.error e) s'') (fun e' s'' => R (.error e') s'') s') { s with heap := h₁, toks := t₁ }) :
    codeAny (model W.prog W.w) c.A (.call (.ref f) ⟨us, []⟩) R s := by
  obtain ⟨vs, hvs, hb⟩ := hbind (O.X.keeps A.F.keep)
  have hul : vs.length = ps.length := by have := hvs.length; omega
  obtain ⟨FG, BG, st, _⟩ := groundX (R := fun _ _ => True) O.B A.F A.N O.hA rfl O.hk
  refine codeAny_call_def (fd := fnOf name qual params body scope dV kV doc pm an cdv ct) (body := body) (binds := ps.zip vs) (by have := O.dep; show c.A.depth < 1000; omega) ((O.X.keeps A.F.keep) _ _ hf) rfl (O.T.nolimit.keeps A.F.keep) (codeRec_of (O.X.keeps A.F.keep) hcd) rfl hb hcell ?_ (fun h₁ hns hk₁ => ?_) hco hgen hk
  · intro y hy
    have : y.1 ∈ ps := (List.of_mem_zip hy).1
    exact beq_iff_eq.mp (List.all_eq_true.mp hloc y.1 this)
  · let g := hideAll s.heap (x.led.map (·.1))
    let c' : Cx := { A₀ := c.A, A := c.A.deeper (envX qual scope s.heap.objs.size f cdv []), base := c.base, h₀ := g, outer := c.env sc :: c.outer, qual := qual, L := s.heap.objs.size, f := f, cd := cdv, cl := [] }
    have O' : CxOk W b d scope c' := ⟨BG, Around.frames_deeper O.hA, hk, O.XB, O.TB, (by have := O.dep; show c.A.depth + 1 + d < 1000; omega), (by have := O.un; show c.A.units + 3 + 4 * d + 100 < 9900; omega), O.hh, (fun y a q => nomatch q), (by have := O.d1; show 302 ≤ c.A.depth + 1; omega), (by have := O.d1; intro (q : c.A.depth + 1 = 302); omega), no_cell hcell⟩
    have A' : At W c' (fun y => (ps.zip vs).reverse.lookup y) H h₁ x := ⟨⟨hns, fun b o e => hk₁ b o (of_hideAll _ e), Nat.le_of_eq (hideAll_size _ _)⟩, fun p hp => ⟨hk₁ _ _ (A.N p hp).1, Nat.ne_of_lt (Heap.lt_size (A.N p hp).1), hideAll_none _ (List.mem_map_of_mem hp)⟩, A.ok⟩
    have cal : Callee W sc scope c c' m := by
      refine ⟨rfl, rfl, st, ?_, fun {m' H' h' x'} A2 => ?_, rfl, rfl, rfl, ⟨st, FG.ns, FG.above⟩⟩
      · obtain ⟨o, _, _, ho, _⟩ := FG.ns
        exact ⟨o, ho⟩
      · obtain ⟨_, _, _, lv⟩ := groundX (R := fun _ _ => At W c m H' h' x') O.B A.F A.N O.hA rfl O.hk
        exact lv .none { s with heap := h' } (leaveK_ A2.F A2.N fun kF kN => ⟨kF, kN, A2.ok⟩)
    exact h c' O' cal h₁ _ _ A' ⟨nd, fun y v l => let ⟨u, a, r⟩ := zip_look nd hvs hul.symm rfl l; ⟨u, .inl ⟨rfl, a⟩, r⟩⟩
theorem callY {f : Addr} {name qual : Str} {params : Arguments} {body : List PySem.Stmt} {scope : Scope} {dV kV doc pm cdv ct oc : Value} {an od : Option Addr} {osl : Array (Option Value)} {args : List AV} {ps ls : List Str}
    {c : Cx} (O : CxOk W b (d + 1) sc c) {s : Shared} {m : Str → Option Value} {x : LW} (A : At W c m H s.heap x) {us : List Value} (hus : VRs W.kp x args us) {R : Result → Shared → Prop}
    (hf : W.K.lookup f = some ⟨oc, od, .func (fnOf name qual params body scope dV kV doc pm an cdv ct), osl⟩) (hcd : codeIn W.K cdv qual = true)
    (hbind : ∀ us : List Value, us.length = ps.length → bindArgs (fnOf name qual params body scope dV kV doc pm an cdv ct) ⟨us, []⟩ = pure (ps.zip us)) (hloc : ps.all (fun y => scope.names.lookup y == some .local) = true)
    (hn : args.length = ps.length) (nd : (ps ++ ls).Nodup) (hcell : ∀ x ∈ scope.names, x.2 ≠ .cell) (hco : scope.isCoroutine = false) (hgen : scope.isGenerator = false) (hk : scope.kind = .function)
    (h : ∀ c', CxOk W b d scope c' → Callee W sc scope c c' m → ∀ h₁ t₁ m', At W c' m' H h₁ x → FrR W.kp c' x (startFr ps ls args) m' →
      wpAny (model W.prog W.w) c'.A (execs body (c'.env scope)) (fun fl s' => R (.ok (.ret (match fl with | .ret v => v | _ => .none))) s')
        (fun e s' => wpAny (model W.prog W.w) c'.A (leaving (c'.env scope) e) (fun _ s'' => R (.error e) s'') (fun e' s'' => R (.error e') s'') s') { s with heap := h₁, toks := t₁ }) :
    codeAny (model W.prog W.w) c.A (.call (.ref f) ⟨us, []⟩) R s :=
  callYD O A hus hf hcd (fun _ => ⟨us, hus, BindsTo.of_eq (hbind us (by have := hus.length; omega))⟩) hloc hn nd hcell hco hgen hk h
theorem Cl.ofBodyD {f : Addr} {name qual : Str} {params : Arguments} {body : List PySem.Stmt} {scope : Scope} {dV kV doc pm cdv ct oc : Value} {an od : Option Addr} {osl : Array (Option Value)} {args args' : List AV} {ps ls : List Str} {r : AV}
    (hf : W.K.lookup f = some ⟨oc, od, .func (fnOf name qual params body scope dV kV doc pm an cdv ct), osl⟩) (hcd : codeIn W.K cdv qual = true)
    (hbind : ∀ (s : Shared) (x : LW) (us : List Value), VRs W.kp x args us → W.K.In s.heap → ∃ vs, VRs W.kp x args' vs ∧ BindsTo s (fnOf name qual params body scope dV kV doc pm an cdv ct) ⟨us, []⟩ (ps.zip vs)) (hloc : ps.all (fun y => scope.names.lookup y == some .local) = true)
    (hn : args'.length = ps.length) (nd : (ps ++ ls).Nodup) (hcell : ∀ x ∈ scope.names, x.2 ≠ .cell) (hco : scope.isCoroutine = false) (hgen : scope.isGenerator = false) (hk : scope.kind = .function)
    (h : Exs W b d scope body (startFr ps ls args') H fl fr' H') (hr : fl.back = some r) : Cl W b (d + 1) f args H r H' := by
  intro sc c O s m x A us hus R hR
  refine callYD O A hus hf hcd (fun X => hbind s x us hus X) hloc hn nd hcell hco hgen hk fun c' O' cal h₁ t₁ m' A' F' => ?_
  refine h c' O' { s with heap := h₁, toks := t₁ } m' x A' F' _ _ fun f' m2 h' t' x' A2 F2 e' r' => ?_
  cases fl with
  | next =>
    cases f' with
    | next => cases hr; exact hR .none h' t' x' (cal.back A2) e' .none
    | _ => exact r'.elim
  | ret v =>
    cases f' with
    | ret u => cases hr; exact hR u h' t' x' (cal.back A2) e' r'
    | _ => exact r'.elim
  | _ => cases hr
end
noncomputable def XOut (W : Wd) (sc : Scope) (c : Cx) (m : Str → Option Value) (H : Hp) (n : Int) (x : LW) (P : Value → Shared → Prop) (s : Shared) : Prop :=
  ∀ (e D t : Addr) (hr h' : Heap) (t' : Nat) (x' : LW) (ps : List Addr) (hd fl : Value) (es : List DictEntry) (nn : Nat) (tk : Tok), At W c m H hr x' → Ext x x' → e ∉ x.led.map (·.1) → (e, excO 71 D t .none) ∈ x'.led → e ∉ x'.own → (D, dictOf es nn) ∈ x'.led → D ∉ x'.own →
    getL (Str.ofString "steps") es = some (some (.int n tk)) → (∀ a ∈ ps, c.h₀.get? a = none ∧ a ≠ c.L ∧ a ∉ x'.led.map (·.1)) → (fl = .none ∨ fl = rawInt c.L) → Fly hr (ps ++ frs (c.env sc :: c.outer)) h' 71 e D t hd fl → P (.ref e) { s with heap := h', toks := t' }
theorem XOut.mono {W : Wd} {sc : Scope} {c : Cx} {m : Str → Option Value} {H : Hp} {n : Int} {x x' : LW} {P : Value → Shared → Prop} {s : Shared} {h₁ : Heap} {t₁ : Nat} (e : Ext x x') (k : XOut W sc c m H n x P s) : XOut W sc c m H n x' P { s with heap := h₁, toks := t₁ } :=
  fun e' D t hr h' t' x'' ps hd fl es nn tk A E1 hnew => k e' D t hr h' t' x'' ps hd fl es nn tk A (e.trans E1) fun q => hnew (e.keys _ q)
section
variable (W : Wd) (d : Nat) (sc : Scope)
noncomputable def EvX (e : PySem.Expr) (fr : Fr2) (H : Hp) (n : Int) (H' : Hp) : Prop :=
  ∀ (c : Cx), CxOk W true d sc c → ∀ (s : Shared) (m : Str → Option Value) (x : LW), At W c m H s.heap x → FrR W.kp c x fr m → ∀ (Q : Value → Shared → Prop) (E : Value → Shared → Prop), XOut W sc c m H' n x E s → wpAny (model W.prog W.w) c.A (eval e (c.env sc)) Q E s
noncomputable def ExX (st : PySem.Stmt) (fr : Fr2) (H : Hp) (n : Int) (H' : Hp) : Prop :=
  ∀ (c : Cx), CxOk W true d sc c → ∀ (s : Shared) (m : Str → Option Value) (x : LW), At W c m H s.heap x → FrR W.kp c x fr m → ∀ (Q : Flow → Shared → Prop) (E : Value → Shared → Prop), (∀ m', XOut W sc c m' H' n x E s) → wpAny (model W.prog W.w) c.A (exec st (c.env sc)) Q E s
noncomputable def ExsX (st : List PySem.Stmt) (fr : Fr2) (H : Hp) (n : Int) (H' : Hp) : Prop :=
  ∀ (c : Cx), CxOk W true d sc c → ∀ (s : Shared) (m : Str → Option Value) (x : LW), At W c m H s.heap x → FrR W.kp c x fr m → ∀ (Q : Flow → Shared → Prop) (E : Value → Shared → Prop), (∀ m', XOut W sc c m' H' n x E s) → wpAny (model W.prog W.w) c.A (execs st (c.env sc)) Q E s
end
noncomputable def ClX (W : Wd) (d : Nat) (f : Addr) (args : List AV) (H : Hp) (n : Int) (H' : Hp) : Prop :=
  ∀ (sc : Scope) (c : Cx), CxOk W true d sc c → ∀ (s : Shared) (m : Str → Option Value) (x : LW), At W c m H s.heap x → ∀ (us : List Value), VRs W.kp x args us → ∀ (R : Result → Shared → Prop), XOut W sc c m H' n x (fun e s' => R (.error e) s') s → codeAny (model W.prog W.w) c.A (.call (.ref f) ⟨us, []⟩) R s
section
variable {W : Wd} {d : Nat} {sc : Scope} {fr fr' fr₁ : Fr2} {H H' H₁ H₂ : Hp} {v : AV} {p : Pos} {n : Int} {e : PySem.Expr}
theorem Fly.frames {c : Cx} {b : Bool} (O : CxOk W b d sc c) {m : Str → Option Value} {hr h' : Heap} {x' : LW} {fs : List Addr} {C e D t : Addr} {hd fl : Value} {oe : Obj} (A : At W c m H hr x') (he : (e, oe) ∈ x'.led) (hin : ∀ a ∈ frs (c.env sc :: c.outer), a ∈ fs) (F : Fly hr fs h' C e D t hd fl) :
    h'.FunFrames c.base (c.env sc :: c.outer) := by
  have B := (pushX (env := c.env sc) O.B A.F rfl O.hk).frames
  have key : ∀ {l : List Env}, hr.FunFrames c.base l → (∀ a ∈ frs l, a ∈ fs) → h'.FunFrames c.base l := by
    intro l
    induction l with
    | nil => intro _ _; trivial
    | cons env l ih =>
      rintro ⟨hk, ⟨L, o, hf, hn, ho, hd⟩, hr'⟩ hin
      have hL : L ∈ fs := hin L (List.mem_filterMap.mpr ⟨env, .head _, hf⟩)
      obtain ⟨sl, hs⟩ := F.slot L o ho hL
      exact ⟨hk, ⟨L, _, hf, hn, hs, hd⟩, ih hr' fun a ha => hin a (by
        obtain ⟨env', h1, h2⟩ := List.mem_filterMap.mp ha
        exact List.mem_filterMap.mpr ⟨env', .tail _ h1, h2⟩)⟩
  exact key B hin
theorem ClX.ofBody {f : Addr} {name qual : Str} {params : Arguments} {body : List PySem.Stmt} {scope : Scope} {dV kV doc pm cdv ct oc : Value} {an od : Option Addr} {osl : Array (Option Value)} {args : List AV} {ps ls : List Str}
    (hf : W.K.lookup f = some ⟨oc, od, .func (fnOf name qual params body scope dV kV doc pm an cdv ct), osl⟩) (hcd : codeIn W.K cdv qual = true)
    (hbind : ∀ us : List Value, us.length = ps.length → bindArgs (fnOf name qual params body scope dV kV doc pm an cdv ct) ⟨us, []⟩ = pure (ps.zip us)) (hloc : ps.all (fun y => scope.names.lookup y == some .local) = true)
    (hn : args.length = ps.length) (nd : (ps ++ ls).Nodup) (hcell : ∀ x ∈ scope.names, x.2 ≠ .cell) (hco : scope.isCoroutine = false) (hgen : scope.isGenerator = false) (hk : scope.kind = .function)
    (h : ExsX W d scope body (startFr ps ls args) H n H') : ClX W (d + 1) f args H n H' := by
  intro sc c O s m x A us hus R hR
  refine callY O A hus hf hcd hbind hloc hn nd hcell hco hgen hk fun c' O' cal h₁ t₁ m' A' F' => ?_
  refine h c' O' { s with heap := h₁, toks := t₁ } m' x A' F' _ _ fun m2 e D t hr h' t' x' qs hd fl es nn tk A2 E2 hnw he hoe hD hoD hg hps hfl F => ?_
  have hin : ∀ a ∈ frs (c'.env scope :: c'.outer), a ∈ qs ++ frs (c'.env scope :: c'.outer) := fun a ha => List.mem_append_right _ ha
  have FF := Fly.frames O' A2 he hin F
  have fin : ∀ h'' T, Fly hr (qs ++ frs (c'.env scope :: c'.outer)) h'' 71 e D t (.ref T) .none → R (.error (.ref e)) { s with heap := h'', toks := t' } := by
    intro h'' T F2
    have hc'L : ∀ q ∈ x'.led, q.1 ≠ c'.L := fun q hq => (A2.N q hq).2.1
    have hfr : frs (c'.env scope :: c'.outer) = c'.L :: frs (c.env sc :: c.outer) := by rw [cal.out]; rfl
    refine hR e D t hr h'' t' x' (c'.L :: qs) (.ref T) .none es nn tk (cal.back A2) E2 hnw he hoe hD hoD hg (fun a ha => ?_) (.inl rfl) (F2.more (fun a ha => ?_) fun q => F2.ne ?_)
    · rcases List.mem_cons.mp ha with rfl | ha
      · refine ⟨?_, fun q => ?_, fun q => ?_⟩
        · cases z : c.h₀.get? c'.L with
          | none => rfl
          | some o => exact absurd (Nat.lt_of_lt_of_le (Heap.lt_size (cal.stay _ _ z)) A2.F.above) (Nat.lt_irrefl _)
        · obtain ⟨o, ho⟩ := cal.at_
          rw [← q] at ho
          exact absurd (Nat.lt_of_lt_of_le (Heap.lt_size ho) A2.F.above) (Nat.lt_irrefl _)
        · obtain ⟨r, hr1, hr2⟩ := List.mem_map.mp q
          exact hc'L r hr1 hr2
      · obtain ⟨h1, h2, h3⟩ := hps a ha
        refine ⟨?_, fun q => ?_, h3⟩
        · cases z : c.h₀.get? a with
          | none => rfl
          | some o => have := cal.stay _ _ z; rw [h1] at this; cases this
        · obtain ⟨o, ho⟩ := cal.at_
          rw [← q, h1] at ho; cases ho
    · rw [hfr] at ha
      rcases List.mem_append.mp ha with h1 | h1
      · exact List.mem_append_left _ (.tail _ h1)
      · rcases List.mem_cons.mp h1 with rfl | h1
        · exact List.mem_append_left _ (.head _)
        · exact List.mem_append_right _ h1
    · rw [hfr]
      rcases List.mem_append.mp q with h1 | h1
      · rcases List.mem_cons.mp h1 with rfl | h1
        · exact List.mem_append_right _ (.head _)
        · exact List.mem_append_left _ h1
      · exact List.mem_append_right _ (.tail _ h1)
  have hc : c'.A.frames = some (c'.env scope :: c'.outer) := O'.hA
  rcases hfl with rfl | rfl
  · exact fly_leave (s := { s with heap := h', toks := t' }) hc FF rfl hin F fin
  · rcases F.tb with hz | ⟨T, oT, ts, rfl, hT⟩
    · subst hz
      exact fly_leave (s := { s with heap := h', toks := t' }) hc FF rfl hin ⟨F.keep, F.slot, F.exc, F.ne, F.old, .inl rfl⟩ fin
    · unfold leaving
      refine wpAny_bind (fly_again (s := { s with heap := h', toks := t' }) (L := c'.L) rfl F ?_)
      exact fly_down (base := c'.base) (s := { s with heap := h', toks := t' }) F fun h'' F2 _ => fin h'' T F2
theorem ExsX.head {st : PySem.Stmt} {ss : List PySem.Stmt} (h : ExX W d sc st fr H n H') : ExsX W d sc (st :: ss) fr H n H' := by
  intro c O s m x A F Q E hE
  exact wpAny_execs_cons (h c O s m x A F _ _ hE)
theorem ExsX.next {st : PySem.Stmt} {ss : List PySem.Stmt} (h1 : Ex W true d sc st fr H .next fr₁ H₁) (h2 : ExsX W d sc ss fr₁ H₁ n H') : ExsX W d sc (st :: ss) fr H n H' := by
  intro c O s m x A F Q E hE
  refine wpAny_execs_cons (h1 c O s m x A F _ _ fun f m' h' t' x' A' F' e' r' => ?_)
  cases f with
  | next => exact h2 c O _ m' x' A' F' _ _ fun m'' => (hE m'').mono e'
  | _ => exact r'.elim
theorem ExX.ifT {A B : List PySem.Stmt} (h1 : Ts W true d sc e fr H true H₁) (h2 : ExsX W d sc A fr H₁ n H') : ExX W d sc (.If e A B p) fr H n H' := by
  intro c O s m x A F Q E hE
  refine wpAny_If (h1 c O s m x A F _ _ fun h' t' x' A' e' => ?_)
  rw [if_pos rfl]
  exact h2 c O _ m x' A' (F.mono e') _ _ fun m'' => (hE m'').mono e'
theorem ExX.ret (h1 : EvX W d sc e fr H n H') : ExX W d sc (.Return (some e) p) fr H n H' := by
  intro c O s m x A F Q E hE
  exact wpAny_Return_some (h1 c O s m x A F _ _ (hE m))
theorem ExX.expr (h1 : EvX W d sc e fr H n H') (hi : ∀ env, env.scope = sc → interactive env = false) (hs : ∀ env, env.scope = sc → swapsWith e none p.line env = pure false) : ExX W d sc (.Expr e p) fr H n H' := by
  intro c O s m x A F Q E hE
  exact wpAny_Expr_any (h1 c O s m x A F _ _ (hE m)) (hi _ rfl) (hs _ rfl)
theorem EvX.ifT {a c' : PySem.Expr} (h1 : Ts W true d sc e fr H true H₁) (h2 : EvX W d sc a fr H₁ n H') : EvX W d sc (.IfExp e a c' p) fr H n H' := by
  intro c O s m x A F Q E hE
  refine wpAny_IfExp (h1 c O s m x A F _ _ fun h' t' x' A' e' => ?_)
  rw [if_pos rfl]
  exact h2 c O _ m x' A' (F.mono e') _ _ (hE.mono e')
theorem EvX.ifF {a c' : PySem.Expr} (h1 : Ts W true d sc e fr H false H₁) (h2 : EvX W d sc c' fr H₁ n H') : EvX W d sc (.IfExp e a c' p) fr H n H' := by
  intro c O s m x A F Q E hE
  refine wpAny_IfExp (h1 c O s m x A F _ _ fun h' t' x' A' e' => ?_)
  rw [if_neg (by decide)]
  exact h2 c O _ m x' A' (F.mono e') _ _ (hE.mono e')
theorem EvX.callMeth0 {n' : Str} {ap : Pos} {fa : Addr} {k : Nat} {C : Addr} {fs : List (Str × AV)} {o : PySem.Expr} (h0 : Ev W true (d + 1) sc o fr H (.obj k) H₁) (hk : H₁[k]? = some (.inst C fs)) (hn : n' ∉ fs.map (·.1))
    (ok : methOk W.K C n' fa = true)
    (hc : ∀ env, ∃ pl, eval (.Call (.Attribute o n' ap) [] [] p) env = (do
      let ov ← eval o env
      standAt ap.atName
      let (f, first) ← holding [ov] (getMethod ov n' pl)
      callWith p f first (backTo p (starEach [] env)) (backToKw p (keywordEach [] env))))
    (h2 : ClX W (d + 1) fa [.obj k] H₁ n H') : EvX W (d + 1) sc (.Call (.Attribute o n' ap) [] [] p) fr H n H' := by
  intro c O s m x A F Q E hE
  simp only [methOk, Bool.and_eq_true, beq_iff_eq] at ok
  obtain ⟨⟨⟨o1, o2⟩, o3⟩, o4⟩ := ok
  obtain ⟨pl, hev⟩ := hc (c.env sc)
  refine methodCall_KW (pl := pl) (h0 c O s m x A F _ _ fun u h' t' x' A' e' r' => ?_) hev
  obtain ⟨_, hq, rfl⟩ := VR.o r'
  rename_i q
  obtain ⟨es', nn, m1, m2, fr'⟩ := A'.inst hk hq
  refine method_inst (s := { s with heap := h', toks := t' }) A'.F O.X (InstAt.of_news A'.N m1 m2) o1 o2 o3 (fr'.miss hn) ?_
  refine callWith_K0 (K := W.K) (O.X.keeps A'.F.keep) o4 ?_
  refine wpAny_call ?_
  exact h2 sc c O _ m x' A' [.ref q.1] (.cons (.obj hq) .nil) _ (hE.mono e')
inductive WX (W : Wd) (d : Nat) (sc : Scope) (test : PySem.Expr) (body : List PySem.Stmt) : Nat → Fr2 → Hp → Int → Hp → Prop
  | here {fr : Fr2} {H H₁ H' : Hp} {n : Int} : Ts W true d sc test fr H true H₁ → ExsX W d sc body fr H₁ n H' → WX W d sc test body 0 fr H n H'
  | turn {k : Nat} {fr fr₁ : Fr2} {H H₁ H₂ H' : Hp} {n : Int} : Ts W true d sc test fr H true H₁ → Exs W true d sc body fr H₁ .next fr₁ H₂ → WX W d sc test body k fr₁ H₂ n H' → WX W d sc test body (k + 1) fr H n H'
theorem XOut.noted {c : Cx} (O : CxOk W true d sc c) {m : Str → Option Value} {x : LW} {E : Value → Shared → Prop} {s : Shared} (h : XOut W sc c m H n x E s) :
    XOut W sc c m H n x (notedBy (model W.prog W.w) c.A (c.env sc) fun e s' => cameBackBy (model W.prog W.w) c.A (c.env sc) E e s') s := by
  intro e D t hr h' t' x' ps hd fl es nn tk A E1 hnw he hoe hD hoD hg hps hfl F
  have hin : ∀ a ∈ frs (c.env sc :: c.outer), a ∈ ps ++ frs (c.env sc :: c.outer) := fun a ha => List.mem_append_right _ ha
  have fin : ∀ h'' T, Fly hr (ps ++ frs (c.env sc :: c.outer)) h'' 71 e D t (.ref T) (rawInt c.L) → cameBackBy (model W.prog W.w) c.A (c.env sc) E (.ref e) { s with heap := h'', toks := t' } := by
    intro h'' T F2
    unfold cameBackBy
    refine wpAny_bind (wpAny_field F2.exc rfl (x := .ref T) rfl ?_)
    rw [if_neg (show ¬ ((Value.ref T == Value.none) = true) from by simp)]
    unfold setFlight
    refine wpAny_bind (wpAny_field F2.exc rfl (x := .ref T) rfl ?_)
    rw [if_pos (show (Value.ref T != Value.none) = true from by simp)]
    exact fly_clear (base := c.base) (s := { s with heap := h'', toks := t' }) F2 fun h3 F3 _ => h e D t hr h3 t' x' ps (.ref T) (rawInt c.L) es nn tk A E1 hnw he hoe hD hoD hg hps (.inr rfl) F3
  show wpAny _ _ (noteFrame (.ref e) (c.env sc)) _ _ _
  rcases hfl with rfl | rfl
  · exact fly_note (s := { s with heap := h', toks := t' }) O.hA (Fly.frames O A he hin F) rfl hin F fin
  · rcases F.tb with hz | ⟨T, oT, ts, rfl, hT⟩
    · subst hz
      exact fly_note (s := { s with heap := h', toks := t' }) O.hA (Fly.frames O A he hin F) rfl hin ⟨F.keep, F.slot, F.exc, F.ne, F.old, .inl rfl⟩ fin
    · exact fly_again (s := { s with heap := h', toks := t' }) (L := c.L) rfl F (fin h' T F)
inductive WxI (W : Wd) (d : Nat) (sc : Scope) (e : PySem.Expr) (body : List PySem.Stmt) (v : Int) (H' : Hp) (c : Cx) (s : Shared) (x : LW) : Nat → Shared → Prop
  | mk {n : Nat} {fr₀ : Fr2} {H₀ : Hp} {m₀ : Str → Option Value} {h₀ : Heap} {t₀ : Nat} {x₀ : LW} : WX W d sc e body n fr₀ H₀ v H' → At W c m₀ H₀ h₀ x₀ → FrR W.kp c x₀ fr₀ m₀ → Ext x x₀ → WxI W d sc e body v H' c s x n { s with heap := h₀, toks := t₀ }
theorem ExX.while {k : Nat} {body : List PySem.Stmt} (h1 : WX W d sc e body k fr H n H') : ExX W d sc (.While e body [] p) fr H n H' := by
  intro c O s m x A F Q E hE
  refine wpAny_While ?_
  refine codeAny_whileLoop (WxI W d sc e body n H' c s x) ?_ k (.mk h1 A F (Ext.refl x))
  intro k s' J
  cases J with
  | mk w A₀ F₀ e₀ =>
  rename_i fr₀ H₀ m₀ h₀ t₀ x₀
  cases w with
  | here t bd =>
    refine t c O _ m₀ x₀ A₀ F₀ _ _ fun h' t' x' A' e' => ?_
    rw [if_pos rfl]
    exact bd c O _ m₀ x' A' (F₀.mono e') _ _ fun m'' => ((hE m'').noted O).mono (e₀.trans e')
  | turn t bd w =>
    refine t c O _ m₀ x₀ A₀ F₀ _ _ fun h' t' x' A' e' => ?_
    rw [if_pos rfl]
    refine bd c O _ m₀ x' A' (F₀.mono e') _ _ fun f m2 h2 t2 x2 A2 F2 e2 r2 => ?_
    cases f with
    | next => exact ⟨_, Nat.lt_succ_self _, .mk w A2 F2 ((e₀.trans e').trans e2)⟩
    | _ => exact r2.elim
end
end
section
open PySem PySem.W PyProof.Rows PySem.Calls PySem.Spec
open Builtin Builtin.ObjectAttr
noncomputable abbrev slO : Obj := excClassObj (Str.ofString "StepLimit") (Str.ofString "StepLimit") 71 70 [.ref 31] [.ref 31, .type "Exception", .type "BaseException", .type "object"] true [] [] false none none (some (.ref 54)) none (some (.str (Str.ofString "StepLimit") 241)) (some (.str (Str.ofString "StepLimit") 249)) (some (.bool true)) "Exception.__new__"
theorem sl_in (P : Params) : (K0 P).lookup 71 = some slO := rfl
theorem ns_of {h : Heap} {a : Addr} {c : Value} {dd : Option Addr} {es : Array DictEntry} {n : Nat} {sl : Array (Option Value)} (e : h.get? a = some ⟨c, dd, .dict es n, sl⟩) (k : StrKeys es) : h.Ns a (nsFind es) := ⟨_, es, n, e, rfl, k, fun _ => rfl⟩
theorem strKeys_of {es : Array DictEntry} (h : es.toList.all (fun e => match e.key with | .str _ _ => true | _ => false) = true) : StrKeys es := by
  intro e he
  have := List.all_eq_true.mp h e (Array.mem_toList_iff.mpr he)
  split at this
  · rename_i s t q; exact ⟨s, t, q⟩
  · cases this
theorem sl_ns {P : Params} {h : Heap} (X : (K0 P).In h) : ∃ mN, h.Ns 70 mN ∧ mN "__init__" = some (.ref 68) :=
  ⟨_, ns_of (X 70 _ rfl) (strKeys_of rfl), by kernel_rfl⟩
theorem ce_ns {P : Params} {h : Heap} (X : (K0 P).In h) : ∃ mN, h.Ns 30 mN ∧ mN "__init__" = none :=
  ⟨_, ns_of (X 30 _ rfl) (strKeys_of rfl), by kernel_rfl⟩
theorem sl_tail {P : Params} {h : Heap} (X : (K0 P).In h) : OwnTail h [.type "Exception", .type "BaseException", .type "object"] [.ref 31, .type "Exception", .type "BaseException", .type "object"] := by
  obtain ⟨mN, h1, h2⟩ := ce_ns X
  exact .own (X 31 _ rfl) h1 h2 .base
section
variable {prog : Program} {w : World} {A : Around} {E : Value → Shared → Prop} {h : Heap} {g : Array GenState} {d : Drawn} {t : Nat} {os : OsState} {P : Params}
noncomputable abbrev slTup (rest : List Value) : Obj := tupO rest 0
noncomputable abbrev slRaw (a : Addr) : Obj := { cls := .ref 71, data := .fields #[.ref a, .none, .none, .none, .bool false, .none] }
theorem sl_type_call {rest : List Value} {Q : Fin → Shared → Prop} (X : (K0 P).In h) (hrest : rest.length ≤ sizeLine)
    (hq : wpAny (model prog w) A (call (.ref 68) (.ref (h.objs.size + 1) :: rest)) (fun r s' => r = .none ∧ Q (.done (.ret (.ref (h.objs.size + 1)))) s') E ⟨(h.push (slTup rest)).push (slRaw h.objs.size), g, d, t, os⟩) :
    wpAny (model prog w) A (Builtin.«type.__call__» ⟨.ref 71 :: rest, []⟩) Q E ⟨h, g, d, t, os⟩ := by
  have F := PySem.F.excBase_Exception
  have hC := X 71 _ (sl_in P)
  obtain ⟨mN, hn, hi⟩ := sl_ns X
  have T := sl_tail X
  repeat (first | with_reducible refine wpAny_loadPart_at hC ?_ | with_reducible refine wpAny_madeBy_exc hC ?_ | wp_step)
  refine codeAny_call_builtin_code (Code.quiet_builtin _ F.quiet) (wpAny_check_new_subT F T hC ?_)
  refine codeAny_exc_new_subT F T hC ?_ hrest
  show wpAny _ _ _ _ _ _
  have up : ∀ b o, h.get? b = some o → ((h.push (slTup rest)).push (slRaw h.objs.size)).get? b = some o := fun b o e => Heap.get?_push_of_some _ (Heap.get?_push_of_some _ e)
  have hC₁ := up _ _ hC
  have hfI₁ := up _ _ (X 68 _ rfl)
  have hn₁ : ((h.push (slTup rest)).push (slRaw h.objs.size)).Ns 70 mN := hn.keeps up
  have hget : ((h.push (slTup rest)).push (slRaw h.objs.size)).get? (h.objs.size + 1) = some (slRaw h.objs.size) := by heap_get
  have hcC : (Value.ref 71 :: [Value.ref 31, .type "Exception", .type "BaseException", .type "object"]).contains (.ref 71) = true := by simp
  have T₁ := T.keeps up
  unfold isInstance
  repeat (first | with_reducible refine wpAny_loadPart_at hget ?_ | (with_reducible refine wpAny_isSubtype_exc hC₁ ?_; rw [hcC]) | wp_step)
  show wpAny _ _ (typeLookup (.ref 71) _) _ _ _
  refine wpAny_typeLookup_tail hC₁ hn₁ T₁ F.mroIs F.init.lookup ?_
  rw [hi]
  refine wpAny_holding (wpAny_bind ?_)
  unfold bindSpecial
  refine wpAny_bind (wpAny_typeOf (T := "function") ⟨_, hfI₁, rfl⟩ ?_)
  rw [if_pos (by decide)]
  refine wpAny_pure (wpAny_bind (wpAny_mono hq (fun r s' hr => ?_) fun _ _ x => x))
  obtain ⟨rfl, hQ⟩ := hr
  wp_walk
  exact hQ
theorem sl_call {rest : List Value} {Q : Value → Shared → Prop} (X : (K0 P).In h) (hrest : rest.length ≤ sizeLine)
    (hq : wpAny (model prog w) (A.under (.builtin "type.__call__" ⟨.ref 71 :: rest, []⟩)) (call (.ref 68) (.ref (h.objs.size + 1) :: rest)) (fun r s' => r = .none ∧ Q (.ref (h.objs.size + 1)) s') E ⟨(h.push (slTup rest)).push (slRaw h.objs.size), g, d, t, os⟩) :
    wpAny (model prog w) A (call (.ref 71) rest) Q E ⟨h, g, d, t, os⟩ := by
  have hC := X 71 _ (sl_in P)
  have f1 := tc_lookup
  have f2 := tc_bind (.ref 71)
  have hT : (⟨h, g, d, t, os⟩ : Shared).TypeIs (.ref 71) "type" := ⟨_, hC, rfl⟩
  refine wpAny_call (codeAny_of_tree ?_)
  show wpAny _ _ (callAny (.ref 71) _) _ _ _
  repeat (any_goals (first | assumption | with_reducible refine wpAny_loadPart_at hC ?_ | wp_step))
  refine ⟨rfl, ?_⟩
  exact codeAny_call_builtin_at (Code.quiet_builtin _ (by decide +kernel)) entry_typeCall (wpAny_check_type_call_sub hC (sl_type_call X hrest hq))
end
theorem sl_setattr {prog : Program} {w : World} {A : Around} {E : Value → Shared → Prop} {h : Heap} {g : Array GenState} {dr : Drawn} {t : Nat} {os : OsState} {P : Params} {e : Addr} {tp : Addr} {v : Value} {Q : Unit → Shared → Prop} (X : (K0 P).In h) (he : h.get? e = some (slRaw tp))
    (hq : ∀ h' t' es nn, (∀ b o, b ≠ e → h.get? b = some o → h'.get? b = some o) → h'.get? e = some (excO 71 h.objs.size tp .none) → h'.get? h.objs.size = some (dictOf es nn) → getL (Str.ofString "steps") es = some (some v) → Q () ⟨h', g, dr, t', os⟩) :
    wpAny (model prog w) A (setAttr (.ref e) (Str.ofString "steps") v) Q E ⟨h, g, dr, t, os⟩ := by
  have I : InstAt h e (slRaw tp) 71 none := ⟨he, rfl, rfl, trivial⟩
  refine set_plain (s := ⟨h, g, dr, t, os⟩) X I (by kernel_rfl) ?_
  have SF := PySem.F.store_object
  have sub : Looks (model prog w) h (isInstance (.ref e) (.type "object")) true := I.type.andThen (looks_mroIn X (by kernel_rfl))
  have hm : Looks (model prog w) h (mroOf (.ref 71)) [.ref 71, .ref 31, .type "Exception", .type "BaseException", .type "object"] := (looks_clsIn X (cd := _) (by rfl)).andThen .now
  have ha : Looks (model prog w) h (typeLookup (.ref 71) (Str.ofString "steps")) none := looks_findIn X (by kernel_rfl)
  refine codeAny_call_builtin SF.slot.plain SF.entry (@check_slot (model prog w) _ _ _ "object.__setattr__" "object" "__setattr__" (.ref e) [.str (Str.ofString "steps") t, v] [] _ SF.kind SF.split sub (SF.args (.ref e) (.str (Str.ofString "steps") t) v) ?_)
  rw [osa_eq, refuse_eq]
  refine wpAny_bind (wpAny_bind (I.type.here (wpAny_bind (hm.here ?_))))
  rw [refuseLoop_ref, refuseLoop_ref, PySem.F.store_Exception.passes]
  refine wpAny_pure (wpAny_bind (I.type.here (wpAny_bind (ha.here ?_))))
  refine wpAny_bind (wpAny_pure ?_)
  show wpAny _ _ (storeInOwnDict _ _ _ _ _ _) _ _ _
  unfold storeInOwnDict ownDictForStores instanceDict
  refine wpAny_bind (wpAny_pure (wpAny_bind (wpAny_bind (wpAny_loadPart he (wpAny_bind ((looks_clsIn X (C := 71) (cd := _) (by rfl)).here ?_))))))
  show wpAny _ _ (alloc emptyDict >>= fun d => update e (fun o => { cls := o.cls, dict := some d, data := o.data, slots := o.slots }) >>= fun _ => dictMade (.ref 71) e d) _ _ _
  refine wpAny_bind (wpAny_alloc ?_)
  have hne : e ≠ h.objs.size := Nat.ne_of_lt (Heap.lt_size he)
  have he1 : (h.push emptyDict).get? e = some (slRaw tp) := Heap.get?_push_of_some _ he
  refine wpAny_bind (wpAny_update he1 ?_)
  refine wpAny_bind (wpAny_pure (wpAny_pure ?_))
  refine wpAny_bind (wpAny_pure (wpAny_bind ?_))
  generalize hH : ((h.push emptyDict).update e fun o => { cls := o.cls, dict := some h.objs.size, data := o.data, slots := o.slots }) = h1
  have hD : h1.get? h.objs.size = some emptyDict := by rw [← hH, Heap.get?_update_other _ _ hne]; exact Heap.get?_push_size _ rfl
  have hE : h1.get? e = some (excO 71 h.objs.size tp .none) := by rw [← hH, Heap.get?_update_self _ he1 rfl]
  have hK : ∀ b o, b ≠ e → h.get? b = some o → h1.get? b = some o := fun b o q z => by rw [← hH, Heap.get?_update_other _ _ (Ne.symm q)]; exact Heap.get?_push_of_some _ z
  unfold nsSet
  refine wpAny_bind (wpAny_bind (wpAny_askSetting (wpAny_pure (wpAny_bind (wpAny_mkText (wpAny_bind (wpAny_loadPart hD ?_)))))))
  dsimp only
  rw [aRefKeyMayBeTheName_at]
  rw [if_neg (by simp)]
  generalize (if (Str.ofString "steps").cps.isEmpty = true then (0 : Int) else reduceHash ((model prog w).w.params.strHash (Str.ofString "steps").cps)) = hs
  refine wpAny_updatePart hD ?_
  have hD' : (h1.update h.objs.size (Obj.putName (Str.ofString "steps") hs (.str (Str.ofString "steps") (t + 1)) v)).get? h.objs.size = some (dictOf [⟨hs, .str (Str.ofString "steps") (t + 1), v⟩] 1) := Heap.get?_update_self (Obj.putName (Str.ofString "steps") hs (.str (Str.ofString "steps") (t + 1)) v) hD rfl
  refine wpAny_bind (wpAny_lookBehind hD' (pastItsLine_dict (by show 1 ≤ sizeLine + 1; omega)) ?_)
  refine wpAny_pure ?_
  refine hq _ _ _ _ (fun b o q z => ?_) ?_ hD' rfl
  · rw [Heap.get?_update_other _ _ (fun y => by have := Heap.lt_size z; rw [← y] at this; exact Nat.lt_irrefl _ this)]
    exact hK b o q z
  · rw [Heap.get?_update_other _ _ (Ne.symm hne)]
    exact hE
section
variable {W : Wd} {P : Params} {d : Nat} {sc : Scope} {fr : Fr2} {H H₁ : Hp} {v : AV} {n : Int} {e : PySem.Expr} {pos cpos np : Pos}
theorem At.turn2 {c : Cx} {m : Str → Option Value} {h h' : Heap} {x : LW} {I : Addr} {o o' : Obj} (A : At W c m H h x) (hm : (I, o) ∈ x.led) (hf : fz o = false) (hI : I ∉ x.own) (hs : ∀ b ob, b ≠ I → h.get? b = some ob → h'.get? b = some ob) (ho' : h'.get? I = some o') :
    At W c m H h' (x.put I o') ∧ ExtS x (x.put I o') := by
  have ex := put_extS (o' := o') A.ok.keys hm hf
  obtain ⟨n1, n2, n3⟩ := A.N _ hm
  obtain ⟨oL, es, ep, hL, r⟩ := A.F.ns
  refine ⟨⟨⟨⟨oL, es, ep, hs _ _ (Ne.symm n2) hL, r⟩, fun b ob e => hs b ob (fun z => by rw [z, n3] at e; cases e) (A.F.keep b ob e), A.F.above⟩, fun q hq => ?_, ?_, A.ok.own, A.ok.nd, A.ok.len, fun k O q hk hq => ?_⟩, ex⟩
  · have hq : q ∈ setAt x.led I o' := hq
    unfold setAt at hq
    obtain ⟨r, hr, e⟩ := List.mem_map.mp hq
    by_cases h1 : r.1 = I
    · rw [if_pos h1] at e
      subst e
      exact ⟨ho', n2, n3⟩
    · rw [if_neg h1] at e
      subst e
      exact ⟨hs _ _ h1 (A.N r hr).1, (A.N r hr).2⟩
  · show ((setAt x.led I o').map (·.1)).Nodup
    rw [setAt_keys]; exact A.ok.keys
  · refine (A.ok.objs k O q hk hq).monoV ex.toV fun a oa ha hma => mem_setAt_ne hma fun e => hI ?_
    have e : a = I := e
    exact e ▸ A.owned hk hq ha
theorem At.add {c : Cx} {m : Str → Option Value} {h : Heap} {x : LW} {I : Addr} {o : Obj} (A : At W c m H h x) (ho : h.get? I = some o) (hk : I ∉ x.led.map (·.1)) (hL : I ≠ c.L) (h0 : c.h₀.get? I = none) : At W c m H h (x.more I o) ∧ Ext x (x.more I o) := by
  refine ⟨⟨A.F, fun p hp => ?_, ?_, A.ok.own, A.ok.nd, A.ok.len, fun k O p hk' hp => (A.ok.objs k O p hk' hp).mono (LW.more_ext hk) fun _ _ _ hm => .tail _ hm⟩, LW.more_ext hk⟩
  · rcases List.mem_cons.mp hp with rfl | hp
    · exact ⟨ho, hL, h0⟩
    · exact A.N p hp
  · show ((_ :: x.led).map (·.1)).Nodup
    rw [List.map_cons, List.nodup_cons]
    exact ⟨hk, A.ok.keys⟩
end
end
section
open PySem PySem.W PyProof.Rows PySem.Calls PySem.Spec
noncomputable abbrev Cx.at (c : Cx) (g : Heap) : Cx := { c with h₀ := g }
noncomputable abbrev Cx.mk' (c : Cx) (e : Value) : Cx := { c with A := c.A.mark (some e) }
noncomputable def slotTo (L : Addr) (sl : Array (Option Value)) (g : Heap) : Heap := g.update L fun o => { o with slots := sl }
theorem slotTo_ne {L a : Addr} {sl : Array (Option Value)} {g : Heap} (h : a ≠ L) : (slotTo L sl g).get? a = g.get? a := Heap.get?_update_other _ _ (Ne.symm h)
theorem slotTo_self {L : Addr} {sl : Array (Option Value)} {g : Heap} {o : Obj} (h : g.get? L = some o) (hf : o.isFreed = false) : (slotTo L sl g).get? L = some { o with slots := sl } := Heap.get?_update_self _ h (by obtain ⟨_, _, d, _⟩ := o; cases d <;> first | rfl | exact hf)
section
variable {W : Wd} {d : Nat} {b : Bool} {sc : Scope} {c : Cx} {m : Str → Option Value} {H : Hp}
theorem CxOk.mark (O : CxOk W b d sc c) (e : Value) : CxOk W false d sc (c.mk' e) := ⟨O.B, O.hA, O.hk, O.XB, O.TB, O.dep, O.un, (fun h => by cases h), O.lc, O.d1, O.tp, O.lc2⟩
theorem At.mark {h : Heap} {x : LW} (A : At W c m H h x) (e : Value) : At W (c.mk' e) m H h x := ⟨A.F, A.N, A.ok⟩
theorem At.unmark {h : Heap} {x : LW} {e : Value} (A : At W (c.mk' e) m H h x) : At W c m H h x := ⟨A.F, A.N, A.ok⟩
theorem FrR.forget {K : KP} {x : LW} {ns : List Str} : ∀ {fr fr' : List (Option AV)} {y : Str} {u : Option Value}, FrR K c x (ns, fr) m → (∀ z v, Loc ns fr' z v → z ≠ y ∧ Loc ns fr z v) → FrR K c x (ns, fr') (fun z => if z = y then u else m z) := by
  intro fr fr' y u F k
  refine ⟨F.1, fun z v l => ?_⟩
  obtain ⟨h1, h2⟩ := k z v l
  obtain ⟨u', a, r⟩ := F.2 z v h2
  refine ⟨u', ?_, r⟩
  rcases a with ⟨a1, a2⟩ | a
  · exact .inl ⟨a1, (if_neg h1).trans a2⟩
  · exact .inr a
theorem At.caught {e₁ : Env} {hr h' : Heap} {x' : LW} {ps : List Addr} {e D t : Addr} {hd fl : Value} (O : CxOk W b d sc c) (ho : c.outer = [e₁]) (A : At W c m H hr x') (he : (e, excO 71 D t .none) ∈ x'.led) (heo : e ∉ x'.own)
    (hps : ∀ a ∈ ps, c.h₀.get? a = none ∧ a ≠ c.L ∧ a ∉ x'.led.map (·.1)) (F : Fly hr (ps ++ frs (c.env sc :: c.outer)) h' 71 e D t hd fl) :
    ∃ L₁ sl, e₁.frame = some L₁ ∧ CxOk W b d sc (c.at (slotTo L₁ sl c.h₀)) ∧ At W (c.at (slotTo L₁ sl c.h₀)) m H h' (x'.put e (excO 71 D t hd)) := by
  obtain ⟨hk, ⟨L₁, o₁, hf, hnb, ho₁, hd₁⟩, _⟩ : c.h₀.FunFrames c.base [e₁] := ho ▸ O.B.frames
  have hfs : frs (c.env sc :: c.outer) = [c.L, L₁] := by rw [ho]; show List.filterMap _ _ = _; rw [List.filterMap_cons, List.filterMap_cons, hf]; rfl
  rw [hfs] at F
  have hL1 : L₁ ∈ ps ++ [c.L, L₁] := by simp
  obtain ⟨sl, hsl⟩ := F.slot L₁ o₁ (A.F.keep _ _ ho₁) hL1
  have hfree : o₁.isFreed = false := (Heap.get?_some_iff.mp ho₁).2
  have g1 : (slotTo L₁ sl c.h₀).get? L₁ = some { o₁ with slots := sl } := slotTo_self ho₁ hfree
  have hLL : c.L ≠ L₁ := fun q => by
    have h1 := Heap.lt_size ho₁
    rw [← q] at h1
    exact Nat.lt_irrefl _ (Nat.lt_of_lt_of_le h1 A.F.above)
  have ene : e ∉ ps ++ [c.L, L₁] := F.ne
  have nps : ∀ a, (∃ o, c.h₀.get? a = some o) → a ∉ ps := fun a ⟨o, h⟩ q => by have := (hps a q).1; rw [h] at this; cases this
  have keep0 : ∀ a o, a ≠ L₁ → c.h₀.get? a = some o → h'.get? a = some o := fun a o h1 h2 => by
    refine F.keep a o (A.F.keep a o h2) (fun q => ?_) fun q => ?_
    · rcases List.mem_append.mp q with q | q
      · exact nps a ⟨o, h2⟩ q
      · rcases List.mem_cons.mp q with rfl | q
        · exact Nat.lt_irrefl _ (Nat.lt_of_lt_of_le (Heap.lt_size h2) A.F.above)
        · exact h1 (List.mem_singleton.mp q)
    · subst q
      have := (A.N _ he).2.2
      rw [h2] at this; cases this
  have keepL : ∀ q ∈ x'.led, q.1 ≠ e → h'.get? q.1 = some q.2 := fun q hq hne => by
    refine F.keep q.1 q.2 (A.N.get hq) (fun z => ?_) hne
    rcases List.mem_append.mp z with z | z
    · exact (hps _ z).2.2 (List.mem_map_of_mem hq)
    · rcases List.mem_cons.mp z with z | z
      · exact (A.N q hq).2.1 z
      · have h1 := (A.N q hq).2.2
        rw [List.mem_singleton.mp z, ho₁] at h1; cases h1
  have nL : ∀ q ∈ x'.led, q.1 ≠ L₁ := fun q hq z => by
    have h1 := (A.N q hq).2.2
    rw [z, ho₁] at h1; cases h1
  refine ⟨L₁, sl, hf, ⟨⟨O.B.stack, fun a o q => ?_, ?_⟩, O.hA, O.hk, O.XB, O.TB, O.dep, O.un, O.hh, O.lc, O.d1, O.tp, O.lc2⟩, ⟨?_, fun a o q => ?_, ?_⟩, fun q hq => ?_, ?_, A.ok.own, A.ok.nd, A.ok.len, fun k Ob q hk hq => ?_⟩
  · show (slotTo L₁ sl c.h₀).get? a = some o
    rw [slotTo_ne fun z => by rw [z, hnb] at q; cases q]
    exact O.B.stays a o q
  · show (slotTo L₁ sl c.h₀).FunFrames c.base c.outer
    rw [ho]
    exact ⟨hk, ⟨L₁, _, hf, hnb, g1, hd₁⟩, trivial⟩
  · obtain ⟨oL, es, ep, hL, r⟩ := A.F.ns
    obtain ⟨sl', k⟩ := F.slot c.L oL hL (by simp)
    exact ⟨_, es, ep, k, r⟩
  · have q : (slotTo L₁ sl c.h₀).get? a = some o := q
    by_cases z : a = L₁
    · subst z
      rw [g1] at q
      cases q
      exact hsl
    · rw [slotTo_ne z] at q
      exact keep0 a o z q
  · show (slotTo L₁ sl c.h₀).objs.size ≤ c.L
    have : (slotTo L₁ sl c.h₀).objs.size = c.h₀.objs.size := Heap.size_update _ _ _
    rw [this]
    exact A.F.above
  · have hq : q ∈ setAt x'.led e (excO 71 D t hd) := hq
    unfold setAt at hq
    obtain ⟨r, hr', z⟩ := List.mem_map.mp hq
    by_cases h1 : r.1 = e
    · rw [if_pos h1] at z
      subst z
      refine ⟨F.exc, (A.N _ he).2.1, ?_⟩
      show (slotTo L₁ sl c.h₀).get? e = none
      rw [slotTo_ne (nL _ he)]
      exact (A.N _ he).2.2
    · rw [if_neg h1] at z
      subst z
      refine ⟨keepL r hr' h1, (A.N r hr').2.1, ?_⟩
      show (slotTo L₁ sl c.h₀).get? r.1 = none
      rw [slotTo_ne (nL r hr')]
      exact (A.N r hr').2.2
  · show ((setAt x'.led e _).map (·.1)).Nodup
    rw [setAt_keys]; exact A.ok.keys
  · have ex := put_extS (o' := excO 71 D t hd) A.ok.keys he rfl
    refine (A.ok.objs k Ob q hk hq).monoV ex.toV fun a oa ha hma => mem_setAt_ne hma fun z => heo ?_
    have z : a = e := z
    exact z ▸ A.owned hk hq ha
theorem Inside.swap {c c' : Cx} {e₁ : Env} {L₁ : Addr} {sl : Array (Option Value)} (I : Inside c c' m) (h : L₁ = c.L) : Inside c (c'.at (slotTo L₁ sl c'.h₀)) m := by
  subst h
  obtain ⟨oL, es, ep, hL, r⟩ := I.ns
  refine ⟨fun a o q => ?_, ⟨_, es, ep, slotTo_self hL (Heap.get?_some_iff.mp hL).2, r⟩, I.above⟩
  show (slotTo c.L sl c'.h₀).get? a = some o
  rw [slotTo_ne fun z => ?_]
  · exact I.stay a o q
  · subst z
    exact Nat.lt_irrefl _ (Nat.lt_of_lt_of_le (Heap.lt_size q) I.above)
end
end
section
open PySem PySem.W PyProof.Rows PySem.Calls PySem.Spec
section
variable {W : Wd} {P : Params} {d : Nat} {sc : Scope} {c : Cx} {m : Str → Option Value} {H : Hp} {n : Int} {x : LW} {E : Value → Shared → Prop} {Q : Flow → Shared → Prop} {s : Shared} {xn : Str} {np pos : Pos} {b₀ : PySem.Stmt} {suite : List PySem.Stmt} {e₁ : Env}
theorem excMatches_sl {M : Model} {A : Around} {E : Value → Shared → Prop} {s : Shared} {e D t : Addr} {hd : Value} {Q : Bool → Shared → Prop} (X : (K0 P).In s.heap) (he : s.heap.get? e = some (excO 71 D t hd)) (h : Q true s) : wpAny M A (excMatches (.ref e) (.ref 71)) Q E s := by
  obtain ⟨hp, g, dr, tk, os⟩ := s
  exact wpAny_excMatches_sub_self (X 71 _ (sl_in P)) he rfl (by kernel_rfl) h
theorem to_suite {e D t : Addr} {hr h' : Heap} {t' : Nat} {x' : LW} {ps : List Addr} {hd fl : Value} {name : Option Str}
    (hK : W.K = K0 P) (O : CxOk W true d sc c) (ho : c.outer = [e₁]) (hg : nsIn W.K mainGlobals xn = some (some (.ref 71))) (hx : sc.names.lookup xn = some .globalImplicit) (hdb : (xn == ("__debug__" : Str)) = false)
    (A : At W c m H hr x') (he : (e, excO 71 D t .none) ∈ x'.led) (heo : e ∉ x'.own) (hps : ∀ a ∈ ps, c.h₀.get? a = none ∧ a ≠ c.L ∧ a ∉ x'.led.map (·.1)) (hfl : fl = .none ∨ fl = rawInt c.L) (F : Fly hr (ps ++ frs (c.env sc :: c.outer)) h' 71 e D t hd fl)
    (k : ∀ h'' T L₁ sl, e₁.frame = some L₁ → CxOk W true d sc (c.at (slotTo L₁ sl c.h₀)) → At W (c.at (slotTo L₁ sl c.h₀)) m H h'' (x'.put e (excO 71 D t (.ref T))) →
      match name with
      | none => ∀ E', wpAny (model W.prog W.w) (c.A.mark (some (.ref e))) (execs (b₀ :: suite) (c.env sc)) Q E' { s with heap := h'', toks := t' }
      | some n => wpAny (model W.prog W.w) (c.A.mark (some (.ref e))) (storeName (c.env sc) n (.ref e)) (fun _ s₂ => ∀ E', wpAny (model W.prog W.w) (c.A.mark (some (.ref e))) (execs (b₀ :: suite) (c.env sc))
          (fun f s₂ => wpAny (model W.prog W.w) c.A (do bindName (c.env sc) n .none; unbindBehindTheSuite (c.env sc) n pos) (fun _ s₃ => Q f s₃) E s₂) E' s₂) (fun _ _ => False) { s with heap := h'', toks := t' }) :
    wpAny (model W.prog W.w) c.A (noteFrame (.ref e) (c.env sc)) (fun _ s₂ => wpAny (model W.prog W.w) c.A (setFlight (.ref e) none) (fun _ s₃ => wpAny (model W.prog W.w) c.A (handleBy (.ref e) (c.env sc) [.ExceptHandler (some (.Name xn np)) name (b₀ :: suite) pos]) Q E s₃) E s₂) E { s with heap := h', toks := t' } := by
  have hin : ∀ a ∈ frs (c.env sc :: c.outer), a ∈ ps ++ frs (c.env sc :: c.outer) := fun a ha => List.mem_append_right _ ha
  have nx : ∀ h'' T, Fly hr (ps ++ frs (c.env sc :: c.outer)) h'' 71 e D t (.ref T) (rawInt c.L) → wpAny (model W.prog W.w) c.A (setFlight (.ref e) none) (fun _ s₃ => wpAny (model W.prog W.w) c.A (handleBy (.ref e) (c.env sc) [.ExceptHandler (some (.Name xn np)) name (b₀ :: suite) pos]) Q E s₃) E { s with heap := h'', toks := t' } := by
    intro h'' T F2
    refine fly_down (base := c.base) (s := { s with heap := h'', toks := t' }) F2 fun h3 F3 _ => ?_
    obtain ⟨L₁, sl, hf, O3, A3⟩ := At.caught O ho A he heo hps F3
    refine wpAny_handleBy_cons (codeAny_handlers_test ?_) (by intro q; cases q)
    refine nameX_K (s := { s with heap := h3, toks := t' }) A3.F O3.X (topRead_of O3.T) hg ?_ O.hk hx hdb
    refine excMatches_sl (P := P) (hK ▸ O3.X.keeps A3.F.keep) F3.exc ?_
    cases name with
    | none =>
      refine codeAny_handlers_suite ?_
      refine fly_down (base := c.base) (s := { s with heap := h3, toks := t' }) F3 fun h4 F4 _ => ?_
      obtain ⟨L₂, sl2, hf2, O4, A4⟩ := At.caught O ho A he heo hps F4
      exact k h4 T L₂ sl2 hf2 O4 A4 _
    | some n =>
      refine codeAny_handlers_suite_as ?_
      refine fly_down (base := c.base) (s := { s with heap := h3, toks := t' }) F3 fun h4 F4 _ => ?_
      obtain ⟨L₂, sl2, hf2, O4, A4⟩ := At.caught O ho A he heo hps F4
      exact wpAny_mono (k h4 T L₂ sl2 hf2 O4 A4) (fun _ _ z => z _) fun _ _ z => z.elim
  rcases hfl with rfl | rfl
  · exact fly_note (s := { s with heap := h', toks := t' }) O.hA (Fly.frames O A he hin F) rfl hin F nx
  · rcases F.tb with hz | ⟨T, oT, ts, rfl, hT⟩
    · subst hz
      exact fly_note (s := { s with heap := h', toks := t' }) O.hA (Fly.frames O A he hin F) rfl hin ⟨F.keep, F.slot, F.exc, F.ne, F.old, .inl rfl⟩ nx
    · exact fly_again (s := { s with heap := h', toks := t' }) (L := c.L) rfl F (nx h' T F)
theorem name_goes {M : Model} {A : Around} {E : Value → Shared → Prop} {h : Heap} {g : Array GenState} {dr : Drawn} {tk : Nat} {os : OsState} {env : Env} {n : Str} {pos : Pos} {m : Str → Option Value} {Q : Unit → Shared → Prop} (hl : env.kindOf n = some .local) (hn : h.Ns env.locals m)
    (hp : (env.scope.kind == .class || (env.scope.kind == .module && env.locals != env.globals)) = false)
    (k : ∀ h' u, h'.Ns env.locals (fun z => if z = n then u else m z) → Heap.SameBut env.locals h h' → Q () ⟨h', g, dr, tk + 1, os⟩) :
    wpAny M A (do bindName env n .none; unbindBehindTheSuite env n pos) Q E ⟨h, g, dr, tk, os⟩ := by
  refine wpAny_bind (wpAny_bindName (wpAny_storeName_local hl hn (fun h₁ hn₁ hs₁ => ?_) hp))
  unfold unbindBehindTheSuite
  refine wpAny_onRaise ?_
  refine wpAny_unbindName_local (s := ⟨h₁, g, dr, tk + 1, os⟩) hl hn₁ (v := .none) (if_pos rfl) hp fun h₂ u hn₂ hs₂ => ?_
  refine k h₂ u ?_ (hs₁.trans hs₂)
  have : (fun z => if z = n then u else if z = n then some Value.none else m z) = fun z => if z = n then u else m z := by
    funext z
    by_cases q : z = n <;> simp [q]
  rw [← this]
  exact hn₂
end
end
section
open PySem PySem.W PyProof.Rows PySem.Calls PySem.Spec
noncomputable def Swaps (c : Cx) (e₁ : Env) (g : Heap) : Prop := ∀ (c₀ : Cx) (m₀ : Str → Option Value), e₁.frame = some c₀.L → Inside c₀ c m₀ → Inside c₀ (c.at g) m₀
section
variable (W : Wd) (d : Nat) (sc : Scope)
noncomputable def ExS (st : PySem.Stmt) (fr : Fr2) (H : Hp) (fl : Fl) (fr' : Fr2) (H' : Hp) : Prop :=
  ∀ (c : Cx), CxOk W true d sc c → ∀ e₁, c.outer = [e₁] → ∀ (s : Shared) (m : Str → Option Value) (x : LW), At W c m H s.heap x → FrR W.kp c x fr m → ∀ (Q : Flow → Shared → Prop) (E : Value → Shared → Prop),
    (∀ f m' h' t' x' g, CxOk W true d sc (c.at g) → Swaps c e₁ g → At W (c.at g) m' H' h' x' → FrR W.kp (c.at g) x' fr' m' → Ext x x' → FlR W.kp x' fl f → Q f { s with heap := h', toks := t' }) → wpAny (model W.prog W.w) c.A (exec st (c.env sc)) Q E s
noncomputable def ExsS (st : List PySem.Stmt) (fr : Fr2) (H : Hp) (fl : Fl) (fr' : Fr2) (H' : Hp) : Prop :=
  ∀ (c : Cx), CxOk W true d sc c → ∀ e₁, c.outer = [e₁] → ∀ (s : Shared) (m : Str → Option Value) (x : LW), At W c m H s.heap x → FrR W.kp c x fr m → ∀ (Q : Flow → Shared → Prop) (E : Value → Shared → Prop),
    (∀ f m' h' t' x' g, CxOk W true d sc (c.at g) → Swaps c e₁ g → At W (c.at g) m' H' h' x' → FrR W.kp (c.at g) x' fr' m' → Ext x x' → FlR W.kp x' fl f → Q f { s with heap := h', toks := t' }) → wpAny (model W.prog W.w) c.A (execs st (c.env sc)) Q E s
noncomputable def ExM (st : PySem.Stmt) (fr : Fr2) (H : Hp) (n : Int) (H' : Hp) : Prop :=
  ∀ (c : Cx), CxOk W true d sc c → ∀ (s : Shared) (m : Str → Option Value) (x : LW), At W c m H s.heap x → FrR W.kp c x fr m → ∀ (Q : Flow → Shared → Prop) (E : Value → Shared → Prop), XOut W sc c m H' n x E s → wpAny (model W.prog W.w) c.A (exec st (c.env sc)) Q E s
end
section
variable {W : Wd} {P : Params} {d : Nat} {sc : Scope} {fr fr' fr₁ : Fr2} {H H' H₁ H₂ : Hp} {v : AV} {p : Pos} {n : Int} {e : PySem.Expr} {fl : Fl} {st : PySem.Stmt} {ss : List PySem.Stmt}
theorem ExM.assign {y : Str} {yp : Pos} (h1 : EvX W d sc e fr H n H') (hs : ∀ env, env.scope = sc → swapsWith e (some (.Name y yp)) p.line env = pure false) : ExM W d sc (.Assign [.Name y yp] e p) fr H n H' := by
  intro c O s m x A F Q E hE
  exact wpAny_Assign_Name (h1 c O s m x A F _ _ hE) (hs _ rfl)
theorem ExM.expr (h1 : EvX W d sc e fr H n H') (hi : ∀ env, env.scope = sc → interactive env = false) (hs : ∀ env, env.scope = sc → swapsWith e none p.line env = pure false) : ExM W d sc (.Expr e p) fr H n H' := by
  intro c O s m x A F Q E hE
  exact wpAny_Expr_any (h1 c O s m x A F _ _ hE) (hi _ rfl) (hs _ rfl)
theorem ExS.of (h : Ex W true d sc st fr H fl fr' H') : ExS W d sc st fr H fl fr' H' := by
  intro c O e₁ ho s m x A F Q E k
  exact h c O s m x A F Q E fun f m' h' t' x' A' F' e' r' => k f m' h' t' x' c.h₀ O (fun _ _ _ I => I) A' F' e' r'
theorem ExsS.nil : ExsS W d sc [] fr H .next fr H := by
  intro c O e₁ ho s m x A F Q E k
  exact wpAny_execs_nil (k .next m s.heap s.toks x c.h₀ O (fun _ _ _ I => I) A F (Ext.refl x) trivial)
theorem ExsS.next (h1 : ExS W d sc st fr H .next fr₁ H₁) (h2 : ExsS W d sc ss fr₁ H₁ fl fr' H₂) : ExsS W d sc (st :: ss) fr H fl fr' H₂ := by
  intro c O e₁ ho s m x A F Q E k
  refine wpAny_execs_cons (h1 c O e₁ ho s m x A F _ _ fun f m' h' t' x' g O' sw A' F' e' r' => ?_)
  cases f with
  | next => exact h2 (c.at g) O' e₁ ho _ m' x' A' F' _ _ fun f m2 h2' t2 x2 g2 O2 sw2 A2 F2 e2 r2 => k f m2 h2' t2 x2 g2 O2 (fun c₀ m₀ q I => sw2 c₀ m₀ q (sw c₀ m₀ q I)) A2 F2 (e'.trans e2) r2
  | _ => exact r'.elim
theorem ExsS.ret (h1 : ExS W d sc st fr H (.ret v) fr₁ H₁) : ExsS W d sc (st :: ss) fr H (.ret v) fr₁ H₁ := by
  intro c O e₁ ho s m x A F Q E k
  refine wpAny_execs_cons (h1 c O e₁ ho s m x A F _ _ fun f m' h' t' x' g O' sw A' F' e' r' => ?_)
  cases f with
  | ret u => exact k _ m' h' t' x' g O' sw A' F' e' r'
  | _ => exact r'.elim
theorem ExS.tryRet {body : List PySem.Stmt} {h₀ : ExceptHandler} {hs : List ExceptHandler} (h : Exs W true d sc body fr H (.ret v) fr' H') : ExS W d sc (.Try body (h₀ :: hs) [] [] p) fr H (.ret v) fr' H' := by
  intro c O e₁ ho s m x A F Q E k
  refine wpAny_Try_except (h c O s m x A F _ _ fun f m' h' t' x' A' F' e' r' => ?_)
  cases f with
  | ret u => exact k _ m' h' t' x' c.h₀ O (fun _ _ _ I => I) A' F' e' r'
  | _ => exact r'.elim
theorem swaps_of {c : Cx} {e₁ : Env} {L₁ : Addr} {sl : Array (Option Value)} (hf : e₁.frame = some L₁) : Swaps c e₁ (slotTo L₁ sl c.h₀) := fun c₀ m₀ q I => I.swap (e₁ := e₁) (Option.some.inj (hf.symm.trans q))
theorem ExS.tryCatch {b₀ : PySem.Stmt} {suite : List PySem.Stmt} {xn : Str} {np pos : Pos} (hK : W.K = K0 P) (hg : nsIn W.K mainGlobals xn = some (some (.ref 71))) (hx : sc.names.lookup xn = some .globalImplicit) (hdb : (xn == ("__debug__" : Str)) = false)
    (h1 : ExM W d sc st fr H n H₁) (h2 : Exs W false d sc (b₀ :: suite) fr H₁ .next fr' H') : ExS W d sc (.Try (st :: ss) [.ExceptHandler (some (.Name xn np)) none (b₀ :: suite) pos] [] [] p) fr H .next fr' H' := by
  intro c O e₁ ho s m x A F Q E k
  refine wpAny_Try_except (wpAny_execs_cons (h1 c O s m x A F _ _ ?_))
  intro e D t hr h' t' x' ps hd fl es nn tk A1 E1 hnw he hoe hD hoD hgl hps hfl Fy
  refine to_suite (P := P) (name := none) hK O ho hg hx hdb A1 he hoe hps hfl Fy fun h'' T L₁ sl hf O2 A2 => ?_
  intro E'
  have ex2 : Ext x (x'.put e (excO 71 D t (.ref T))) := E1.put_off hnw
  have F2 : FrR W.kp ((c.at (slotTo L₁ sl c.h₀)).mk' (.ref e)) (x'.put e (excO 71 D t (.ref T))) fr m := F.mono ex2
  refine h2 ((c.at (slotTo L₁ sl c.h₀)).mk' (.ref e)) (O2.mark _) { s with heap := h'', toks := t' } m _ (A2.mark _) F2 _ _ fun f m3 h3 t3 x3 A3 F3 e3 r3 => ?_
  exact k f m3 h3 t3 x3 (slotTo L₁ sl c.h₀) O2 (swaps_of hf) A3.unmark F3 (ex2.trans e3) r3
theorem ExS.tryCatchAs {b₀ : PySem.Stmt} {suite : List PySem.Stmt} {xn y : Str} {np pos : Pos} {ns : List Str} {vs vs' : List (Option AV)} (hK : W.K = K0 P) (hg : nsIn W.K mainGlobals xn = some (some (.ref 71))) (hx : sc.names.lookup xn = some .globalImplicit) (hdb : (xn == ("__debug__" : Str)) = false)
    (h1 : ExM W d sc st (ns, vs) H n H₁) (hy : sc.names.lookup y = some .local) (hv : ∀ z v, Loc ns vs' z v → z ≠ y ∧ Loc ns vs z v)
    (h2 : ∀ (c : Cx), CxOk W false d sc c → ∀ (s : Shared) (m : Str → Option Value) (x : LW) (e D t : Addr) (hd : Value) (es : List DictEntry) (nn : Nat) (tk : Tok), At W c m H₁ s.heap x → FrR W.kp c x (ns, vs') m → m y = some (.ref e) → (e, excO 71 D t hd) ∈ x.led → e ∉ x.own → (D, dictOf es nn) ∈ x.led → D ∉ x.own → getL (Str.ofString "steps") es = some (some (.int n tk)) →
      ∀ Q E, (∀ h' t' x', At W c m H₁ h' x' → Ext x x' → Q .next { s with heap := h', toks := t' }) → wpAny (model W.prog W.w) c.A (execs (b₀ :: suite) (c.env sc)) Q E s) :
    ExS W d sc (.Try (st :: ss) [.ExceptHandler (some (.Name xn np)) (some y) (b₀ :: suite) pos] [] [] p) (ns, vs) H .next (ns, vs') H₁ := by
  intro c O e₁ ho s m x A F Q E k
  refine wpAny_Try_except (wpAny_execs_cons (h1 c O s m x A F _ _ ?_))
  intro e D t hr h' t' x' ps hd fl es nn tk A1 E1 hnw he hoe hD hoD hgl hps hfl Fy
  refine to_suite (P := P) (name := some y) hK O ho hg hx hdb A1 he hoe hps hfl Fy fun h'' T L₁ sl hf O2 A2 => ?_
  have ex2 : Ext x (x'.put e (excO 71 D t (.ref T))) := E1.put_off hnw
  have F2 : FrR W.kp (c.at (slotTo L₁ sl c.h₀)) (x'.put e (excO 71 D t (.ref T))) (ns, vs) m := F.mono ex2
  have hyc : c.cl.lookup y = none := O.nl hy
  have eD : D ≠ e := fun z => by
    have e1 := A1.N.get hD
    have e2 := A1.N.get he
    rw [z] at e1
    have := Option.some.inj (e1.symm.trans e2)
    cases this
  refine storeX_L (s := { s with heap := h'', toks := t' }) A2.F A2.N (fun h3 F3 N3 => ?_) O.hk hy
  intro E'
  refine h2 ((c.at (slotTo L₁ sl c.h₀)).mk' (.ref e)) (O2.mark _) { s with heap := h3, toks := t' + 1 } (fun z => if z = y then some (.ref e) else m z) (x'.put e (excO 71 D t (.ref T))) e D t (.ref T) es nn tk ⟨F3, N3, A2.ok⟩ (F2.forget hv) (if_pos rfl) (mem_setAt_self he) hoe (mem_setAt_ne hD eD) hoD hgl _ _ fun h4 t4 x4 A4 e4 => ?_
  have A4' := A4.unmark
  refine name_goes (env := c.env sc) hy A4'.F.ns (by show (sc.kind == .class || (sc.kind == .module && _)) = false; rw [O.hk]; rfl) fun h5 u hn5 hs5 => ?_
  have F5 : FrR W.kp (c.at (slotTo L₁ sl c.h₀)) x4 (ns, vs') (fun z => if z = y then u else if z = y then some (.ref e) else m z) := ((F2.forget hv).mono e4).forget fun z v l => ⟨(hv z v l).1, l⟩
  exact k .next _ h5 (t4 + 1) x4 (slotTo L₁ sl c.h₀) O2 (swaps_of hf) ⟨A4'.F.set hn5 hs5, A4'.N.set hs5, A4'.ok⟩ F5 (ex2.trans e4) trivial
inductive FS (W : Wd) (d : Nat) (sc : Scope) (y : Str) (body : List PySem.Stmt) : List AV → Fr2 → Hp → Fl → Fr2 → Hp → Prop
  | done {fr : Fr2} {H : Hp} : FS W d sc y body [] fr H .next fr H
  | turn {ns : List Str} {vs vs' : List (Option AV)} {fr₁ fr₂ : Fr2} {H H₁ H₂ : Hp} {v : AV} {rest : List AV} {fl : Fl} : Put ns vs y v vs' → ExsS W d sc body (ns, vs') H .next fr₁ H₁ → FS W d sc y body rest fr₁ H₁ fl fr₂ H₂ → FS W d sc y body (v :: rest) (ns, vs) H fl fr₂ H₂
  | ret {ns : List Str} {vs vs' : List (Option AV)} {fr₁ : Fr2} {H H₁ : Hp} {v r : AV} {rest : List AV} : Put ns vs y v vs' → ExsS W d sc body (ns, vs') H (.ret r) fr₁ H₁ → FS W d sc y body (v :: rest) (ns, vs) H (.ret r) fr₁ H₁
noncomputable def rngG (nn : Nat) (i : Nat) (o : Obj) : Prop := o = { cls := .type "range_iterator", data := .fields #[rawInt (0 + (i : Nat)), rawInt ((nn : Int) - (i : Nat)), rawInt 1] }
inductive RngI (W : Wd) (d : Nat) (sc : Scope) (y : Str) (body : List PySem.Stmt) (r : AV) (fr' : Fr2) (H' : Hp) (c : Cx) (e₁ : Env) (s : Shared) (x : LW) (I : Addr) (nn : Nat) : Nat → Shared → Prop
  | mk {i : Nat} {g : Heap} {fr₀ : Fr2} {H₀ : Hp} {m₀ : Str → Option Value} {h₀ : Heap} {t₀ : Nat} {x₀ : LW} {o : Obj} {rest : List AV} : ItS x I (rngG nn) (rangeV 0 nn) rest i x₀ o → FS W d sc y body rest fr₀ H₀ (.ret r) fr' H' → CxOk W true d sc (c.at g) → Swaps c e₁ g →
    At W (c.at g) m₀ H₀ h₀ x₀ → FrR W.kp (c.at g) x₀ fr₀ m₀ → RngI W d sc y body r fr' H' c e₁ s x I nn rest.length { s with heap := h₀, toks := t₀ }
theorem rngG_next {nn i : Nat} : rngG nn (i + 1) { cls := .type "range_iterator", data := .fields #[rawInt (0 + (i : Int) + 1), rawInt ((nn : Int) - (i : Int) - 1), rawInt 1] } := by
  have e1 : (0 : Int) + (i : Int) + 1 = 0 + ((i + 1 : Nat) : Int) := by omega
  have e2 : (nn : Int) - (i : Int) - 1 = (nn : Int) - ((i + 1 : Nat) : Int) := by omega
  rw [e1, e2]; rfl
theorem rangeS_core {y : Str} {yp : Pos} {body : List PySem.Stmt} {nn : Nat} {I : Addr} {r : AV} {c : Cx} {s : Shared} {m : Str → Option Value} {x : LW} {Q : Flow → Shared → Prop} {E : Value → Shared → Prop} {e₁ : Env} (O : CxOk W true d sc c) (ho : c.outer = [e₁]) (A : At W c m H s.heap x) (F : FrR W.kp c x fr m)
    (hm : (I, ({ cls := .type "range_iterator", data := .fields #[rawInt 0, rawInt nn, rawInt 1] } : Obj)) ∈ x.led) (hI : I ∉ x.own)
    (w : FS W d sc y body (rangeV 0 nn) fr H (.ret r) fr' H') (hy : sc.names.lookup y = some .local)
    (k : ∀ f m' h' t' x' g, CxOk W true d sc (c.at g) → Swaps c e₁ g → At W (c.at g) m' H' h' x' → FrR W.kp (c.at g) x' fr' m' → (∀ z, Ext z x → I ∉ z.led.map (·.1) → Ext z x') → FlR W.kp x' (.ret r) f → Q f { s with heap := h', toks := t' }) :
    codeAny (model W.prog W.w) c.A (.forLoop (.Name y yp) (.ref I) body [] (c.env sc)) (fun r s' => match r with | .ok f => Q f s' | .error e => cameBackBy (model W.prog W.w) c.A (c.env sc) E e s') s := by
  refine codeAny_forLoop (RngI W d sc y body r fr' H' c e₁ s x I nn) ?_ (rangeV 0 nn).length (.mk (o := { cls := .type "range_iterator", data := .fields #[rawInt 0, rawInt nn, rawInt 1] }) (.zero hm hI (by show _ = _; simp)) w O (fun _ _ _ I => I) A F)
  intro n s' J
  cases J with
  | mk J w O₀ sw A₀ F₀ =>
  rename_i i g fr₀ H₀ m₀ h₀ t₀ x₀ o rest
  obtain rfl : o = _ := J.g
  cases w with
  | turn put bd w =>
    obtain ⟨hi, rfl⟩ := rangeV_get J.at
    refine wpAny_pyNext_range_item (s := { s with heap := h₀, toks := t₀ }) (A₀.N.get J.hm) (by omega) fun h3 hit3 hsb => ?_
    obtain ⟨A₁, eS⟩ := A₀.turn J.hm rfl J.hI hsb hit3
    refine wpAny_assign_Name (storeX_L (s := { s with heap := h3, toks := t₀ + 1 }) A₁.F A₁.N (fun h2 F2 N2 => ?_) O.hk hy)
    refine bd (c.at g) O₀ e₁ ho { s with heap := h2, toks := t₀ + 1 + 1 } _ (x₀.put I _) ⟨F2, N2, A₁.ok⟩ ((F₀.monoV eS.toV).put put (.int _ _) (O₀.nl hy)) _ _ fun f m2 h4 t4 x4 g4 O4 sw4 A4 F4 e4 r4 => ?_
    cases f with
    | next => exact ⟨_, Nat.lt_succ_self _, .mk (J.step eS rngG_next e4) w O4 (fun c₀ m₀ q I => sw4 c₀ m₀ q (sw c₀ m₀ q I)) A4 F4⟩
    | _ => exact r4.elim
  | ret put bd =>
    obtain ⟨hi, rfl⟩ := rangeV_get J.at
    refine wpAny_pyNext_range_item (s := { s with heap := h₀, toks := t₀ }) (A₀.N.get J.hm) (by omega) fun h3 hit3 hsb => ?_
    obtain ⟨A₁, eS⟩ := A₀.turn J.hm rfl J.hI hsb hit3
    refine wpAny_assign_Name (storeX_L (s := { s with heap := h3, toks := t₀ + 1 }) A₁.F A₁.N (fun h2 F2 N2 => ?_) O.hk hy)
    refine bd (c.at g) O₀ e₁ ho { s with heap := h2, toks := t₀ + 1 + 1 } _ (x₀.put I _) ⟨F2, N2, A₁.ok⟩ ((F₀.monoV eS.toV).put put (.int _ _) (O₀.nl hy)) _ _ fun f m2 h4 t4 x4 g4 O4 sw4 A4 F4 e4 r4 => ?_
    cases f with
    | ret u => exact k _ m2 h4 t4 x4 g4 O4 (fun c₀ m₀ q I => sw4 c₀ m₀ q (sw c₀ m₀ q I)) A4 F4 (fun z ez hz => ((J.back z ez hz).put_off hz).trans e4) r4
    | _ => exact r4.elim
theorem ExS.forRange1 {y f : Str} {yp np cp : Pos} {body : List PySem.Stmt} {nn : Nat} (h0 : Ev W true d sc (.Name f np) fr H (.val (.type "range")) H) (h1 : Ev W true d sc e fr H (.int nn) H) (hn : nn ≤ 100000) {r : AV}
    (w : FS W d sc y body (rangeV 0 nn) fr H (.ret r) fr' H') (hy : sc.names.lookup y = some .local) (hst : ∀ env, starEach [e] env = [(false, eval e env)])
    (hs : ∀ env x, foldedSetIterable (.Call (.Name f np) [e] [] cp) env x = pure x) : ExS W d sc (.For (.Name y yp) (.Call (.Name f np) [e] [] cp) body [] p) fr H (.ret r) fr' H' := by
  intro c O e₁ ho s m x A F Q E k
  refine wpAny_For ?_ (hs _)
  refine wpAny_Call_ofName (h0 c O s m x A F _ _ fun u h' t' x' A' e' r' => ?_)
  first | obtain rfl := VR.v r' | obtain ⟨_, rfl⟩ := VR.i r' | obtain rfl := VR.t r' | obtain rfl := VR.n r' | obtain ⟨_, rfl⟩ := VR.s r' | cases r'
  refine callWith_of (P := fun _ => True) (by rw [hst]; rfl) (fun _ _ => ⟨_, .inr (.inl rfl), looks_type⟩) ?_
  rw [hst]
  refine evalArgs_plain (Calls.spliced_cons ?_)
  refine h1 c O _ m x' A' (F.mono e') _ _ fun u2 h2' t2 x2 A2 e2 r2 => ?_
  refine Calls.spliced_nil ⟨trivial, ?_⟩
  obtain ⟨tk, rfl⟩ := VR.i r2
  refine call_range_1 ?_
  have fk := fresh_key A2
  refine wpAny_pyIter_range (IsRange.new ..) (small_of (by decide) (by decide) (by omega) (by omega)) ?_
  have hsz : Builtin.Range.rangeSize 0 (nn : Int) 1 = (nn : Int) := by rw [rangeSize_one]; split <;> omega
  rw [hsz]
  have A3 := A2.more (o := { cls := .type "range", data := .fields #[.int 0 t2, .int nn tk, .int 1 (t2 + 1)] }) rfl
  have fk3 := fresh_key A3
  have A4 := A3.more (o := { cls := .type "range_iterator", data := .fields #[rawInt 0, rawInt nn, rawInt 1] }) rfl
  have ex2 := (e'.trans e2).trans (LW.more_ext (o := ({ cls := .type "range", data := .fields #[.int 0 t2, .int nn tk, .int 1 (t2 + 1)] } : Obj)) fk)
  refine rangeS_core O ho A4 ((F.mono ex2).mono (LW.more_ext fk3)) (.head _) (LW.more_off A3.ok fk3) w hy fun f m2 h5 t5 x5 g O5 sw A5 F5 back r5 => ?_
  exact k f m2 h5 t5 x5 g O5 sw A5 F5 (back x (ex2.trans (LW.more_ext fk3)) fun q => fk3 (ex2.keys _ q)) r5
theorem Cl.ofBodyS {f : Addr} {name qual : Str} {params : Arguments} {body : List PySem.Stmt} {scope : Scope} {dV kV doc pm cdv ct oc : Value} {an od : Option Addr} {osl : Array (Option Value)} {args : List AV} {ps ls : List Str} {r : AV}
    (hf : W.K.lookup f = some ⟨oc, od, .func (fnOf name qual params body scope dV kV doc pm an cdv ct), osl⟩) (hcd : codeIn W.K cdv qual = true)
    (hbind : ∀ us : List Value, us.length = ps.length → bindArgs (fnOf name qual params body scope dV kV doc pm an cdv ct) ⟨us, []⟩ = pure (ps.zip us)) (hloc : ps.all (fun y => scope.names.lookup y == some .local) = true)
    (hn : args.length = ps.length) (nd : (ps ++ ls).Nodup) (hcell : ∀ x ∈ scope.names, x.2 ≠ .cell) (hco : scope.isCoroutine = false) (hgen : scope.isGenerator = false) (hk : scope.kind = .function)
    (h : ExsS W 696 scope body (startFr ps ls args) H fl fr' H') (hr : fl.back = some r) : Cl W true 697 f args H r H' := by
  intro sc c O s m x A us hus R hR
  have hout : c.outer = [] := O.tp (by have := O.dep; have := O.d1; omega)
  refine callY O A hus hf hcd hbind hloc hn nd hcell hco hgen hk fun c' O' cal h₁ t₁ m' A' F' => ?_
  refine h c' O' (c.env sc) (by rw [cal.out, hout]) { s with heap := h₁, toks := t₁ } m' x A' F' _ _ fun f' m2 h' t' x' g O2 sw A2 F2 e' r' => ?_
  have bk := (sw c m rfl cal.ins).back A2
  cases fl with
  | next =>
    cases f' with
    | next => cases hr; exact hR .none h' t' x' bk e' .none
    | _ => exact r'.elim
  | ret v =>
    cases f' with
    | ret u => cases hr; exact hR u h' t' x' bk e' r'
    | _ => exact r'.elim
  | _ => cases hr
end
end
section
open PySem PySem.W PyProof.Rows PySem.Calls PySem.Spec
open Builtin Builtin.ObjectAttr
theorem bga_kind : builtinKind "BaseException.__getattribute__" = some .slot := by decide +kernel
theorem bga_split : splitId "BaseException.__getattribute__" = some ("BaseException", "__getattribute__") := by decide +kernel
theorem bga_plain : plainId "BaseException.__getattribute__" = true := by decide +kernel
theorem bga_find (P : Params) : findIn (K0 P) (.ref 71) (Str.ofString "__getattribute__") = some (some (.builtin "BaseException.__getattribute__")) := by kernel_rfl
theorem bga_hook (P : Params) : findIn (K0 P) (.ref 71) (Str.ofString "__getattr__") = some none := by kernel_rfl
theorem bga_steps (P : Params) : findIn (K0 P) (.ref 71) (Str.ofString "steps") = some none := by kernel_rfl
theorem bga_bind (self : Value) : bindSpecial (.builtin "BaseException.__getattribute__") self = pure (.builtin "BaseException.__getattribute__", [self]) := by
  have hop : withoutEnding? "BaseException.__getattribute__" "#opaque" = none := by decide +kernel
  have hdat : withoutEnding? "BaseException.__getattribute__" "#data" = none := by decide +kernel
  simp only [bindSpecial, typeOf, builtinType, hop, hdat, bga_kind]; rfl
theorem sl_get {prog : Program} {w : World} {A : Around} {E : Value → Shared → Prop} {h : Heap} {g : Array GenState} {dr : Drawn} {tk : Nat} {os : OsState} {P : Params} {e D t : Addr} {hd v : Value} {es : List DictEntry} {nn : Nat} {expr : Bool} {Q : Value → Shared → Prop} (X : (K0 P).In h)
    (he : h.get? e = some (excO 71 D t hd)) (hD : h.get? D = some (dictOf es nn)) (hg : getL (Str.ofString "steps") es = some (some v)) (hv : handedIn v = true) (hq : Q v ⟨h, g, dr, tk + 1, os⟩) :
    wpAny (model prog w) A (getAttr (.ref e) (Str.ofString "steps") expr) Q E ⟨h, g, dr, tk, os⟩ := by
  have I : InstAt h e (excO 71 D t hd) 71 (some (dictOf es nn)) := ⟨he, rfl, rfl, hD⟩
  have L0 := I.type (M := model prog w)
  have L1 := looks_findIn (M := model prog w) X (bga_find P)
  have L2 := looks_findIn (M := model prog w) X (bga_hook P)
  have L3 := looks_find (M := model prog w) X I (findObj_own (K := K0 P) (C := 71) (od := dictOf es nn) (name := Str.ofString "steps") (attr := none) (v := v) (by kernel_rfl) (bga_steps P) rfl hg)
  have sub : Looks (model prog w) h (isInstance (.ref e) (.type "BaseException")) true := I.type.andThen (looks_mroIn X (by kernel_rfl))
  unfold getAttr getAttrBy
  refine wpAny_bind (wpAny_mkText (wpAny_holding (wpAny_bind (L0.at (wpAny_bind (L1.at ?_))))))
  dsimp only
  rw [if_neg (by decide +kernel)]
  unfold getAttrByItsOwn
  refine wpAny_bind ?_
  show wpAny _ _ (typeLookup (.ref 71) _) _ _ _
  refine L2.at ?_
  refine wpAny_bind (wpAny_attempt (wpAny_holding ?_))
  unfold callGetattribute
  rw [if_neg (by cases expr <;> decide)]
  unfold boundAndCalled
  rw [bga_bind]
  refine wpAny_bind (wpAny_pure ?_)
  refine wpAny_call (codeAny_call_builtin bga_plain PySem.F.entry_bexc_ga (@check_slot (model prog w) _ _ _ "BaseException.__getattribute__" "BaseException" "__getattribute__" (.ref e) [.str (Str.ofString "steps") tk] [] _ bga_kind bga_split sub (PySem.F.args_bexc_ga _ _) ?_))
  refine wpAny_bind (wpAny_pure (wpAny_bind (wpAny_pure (wpAny_bind (L0.at (wpAny_bind (L3.at ?_)))))))
  refine wpAny_pure ?_
  show wpAny _ _ (handedOut v) _ _ _
  rw [handedOut_of hv]; exact wpAny_pure hq
end
section
open PySem PySem.W PyProof.Rows PySem.Calls PySem.Spec
noncomputable def LW.grow (x : LW) (ps : List (Addr × Obj)) (q : Addr × Addr) (O : MO) : LW := { led := ps ++ x.led, ad := x.ad ++ [q], own := x.own ++ ownOf q O }
section
variable {W : Wd} {b : Bool} {d : Nat} {sc : Scope} {fr fr' : Fr2} {H H₁ H₂ H₃ : Hp} {v v' : AV} {e e' : PySem.Expr} {p : Pos} {c : Cx} {m : Str → Option Value} {h h' : Heap} {x : LW} {ps : List (Addr × Obj)} {q : Addr × Addr} {O : MO}
theorem LW.grow_ext (hn : ∀ a ∈ ps.map (·.1), a ∉ x.led.map (·.1)) (ho : ∀ a ∈ ownOf q O, a ∈ ps.map (·.1)) : Ext x (x.grow ps q O) :=
  ⟨List.prefix_append _ _, fun _ hp _ => List.mem_append_right _ hp, fun a ha => (List.mem_append.mp ha).elim .inl fun z => .inr (hn a (ho a z)), fun a h => by
    show a ∈ (ps ++ x.led).map (·.1)
    rw [List.map_append]; exact List.mem_append_right _ h⟩
theorem LW.grow_at (w : LwOk W.kp H x) : (x.grow ps q O).ad[H.length]? = some q := by
  show (x.ad ++ [q])[H.length]? = _
  rw [List.getElem?_append_right (by rw [w.len]; exact Nat.le_refl _), w.len, Nat.sub_self]; rfl
theorem At.grow (A : At W c m H h x) (F' : Fr c.h₀ c.L h' m) (N' : News c.h₀ c.L h' (ps ++ x.led)) (hn : ∀ a ∈ ps.map (·.1), a ∉ x.led.map (·.1)) (nd : (ps.map (·.1)).Nodup) (ho : ∀ a ∈ ownOf q O, a ∈ ps.map (·.1)) (ndo : (ownOf q O).Nodup)
    (hO : ORel W.kp (x.grow ps q O) q O) : At W c m (H ++ [O]) h' (x.grow ps q O) := by
  refine ⟨F', N', ?_, ?_, ?_, ?_, fun k O' p' hk hp => ?_⟩
  · show ((ps ++ x.led).map (·.1)).Nodup
    rw [List.map_append]
    exact List.nodup_append.mpr ⟨nd, A.ok.keys, fun a ha b hb e => hn a ha (e ▸ hb)⟩
  · show x.own ++ ownOf q O = ownAll (H ++ [O]) (x.ad ++ [q])
    rw [ownAll_app A.ok.len, A.ok.own]
  · show (x.own ++ ownOf q O).Nodup
    exact List.nodup_append.mpr ⟨A.ok.nd, ndo, fun a ha b hb e => hn b (ho b hb) (e ▸ A.ok.ownKeys ha)⟩
  · show (x.ad ++ [q]).length = (H ++ [O]).length
    rw [List.length_append, List.length_append, A.ok.len]; rfl
  · have hp : (x.ad ++ [q])[k]? = some p' := hp
    by_cases hl : k < H.length
    · rw [List.getElem?_append_left hl] at hk
      rw [List.getElem?_append_left (A.ok.len ▸ hl)] at hp
      exact (A.ok.objs k O' p' hk hp).mono (LW.grow_ext hn ho) fun _ _ _ hm => List.mem_append_right _ hm
    · rw [List.getElem?_append_right (Nat.le_of_not_lt hl)] at hk
      rw [List.getElem?_append_right (by rw [A.ok.len]; exact Nat.le_of_not_lt hl), A.ok.len] at hp
      cases hz : k - H.length with
      | zero =>
        rw [hz] at hk hp
        cases hk; cases hp
        exact hO
      | succ j => rw [hz] at hk; simp at hk
theorem At.chg {k : Nat} {O O' : MO} {q : Addr × Addr} {a : Addr} {o o' : Obj} (A : At W c m H h x) (hk : H[k]? = some O) (hq : x.ad[k]? = some q) (hd : a ∈ ownOf q O) (hm : (a, o) ∈ x.led) (hs : Heap.SameBut a h h') (ho' : h'.get? a = some o') (ss : sameKind O O')
    (hO : ORel W.kp (x.put a o') q O') : At W c m (H.set k O') h' (x.put a o') := by
  obtain ⟨n1, n2, n3⟩ := A.N _ hm
  refine ⟨A.F.change hs n2 n3, fun p hp => ?_, A.ok.put hk hq hd ss hO⟩
  have hq : p ∈ setAt x.led a o' := hp
  unfold setAt at hq
  obtain ⟨r, hr, e⟩ := List.mem_map.mp hq
  by_cases h1 : r.1 = a
  · rw [if_pos h1] at e
    subst e
    exact ⟨ho', n2, n3⟩
  · rw [if_neg h1] at e
    subst e
    exact ⟨(hs.2 _ h1).trans (A.N r hr).1, (A.N r hr).2⟩
theorem At.dset {k : Nat} {l l' : List (Str × AV)} {q : Addr × Addr} {us' : List (Str × Value)} (A : At W c m H h x) (hk : H[k]? = some (.sdict l)) (hq : x.ad[k]? = some q) (hs : Heap.SameBut q.1 h h') (hd : h'.DictOf (PySem.strKind W.prog W.w) q.1 us') (r : ∀ x', Ext x x' → KvR W.kp x' l' us') :
    ∃ x', At W c m (H.set k (.sdict l')) h' x' ∧ Ext x x' ∧ x'.ad = x.ad := by
  obtain ⟨o, us, lo, m1, ho, hv⟩ := A.ok.objs k _ q hk hq
  obtain ⟨o', g', d'⟩ := Heap.dictOf_iff.mp hd
  have ex := LW.put_ext (x := x) (o := o') (A.owned hk hq (.head _))
  refine ⟨_, A.chg hk hq (.head _) m1 hs g' (O' := .sdict l') trivial ⟨o', us', lo, mem_setAt_self m1, d', r _ ex⟩, ex, rfl⟩
theorem At.dict {k : Nat} {l : List (Str × AV)} {q : Addr × Addr} (A : At W c m H h x) (hk : H[k]? = some (.sdict l)) (hq : x.ad[k]? = some q) : ∃ us, h.DictOf (PySem.strKind W.prog W.w) q.1 us ∧ KvR W.kp x l us ∧ (q.1 == sysModules) = false := by
  obtain ⟨o, us, lo, m1, ho, hv⟩ := A.ok.objs k _ q hk hq
  exact ⟨us, Heap.dictOf_iff.mpr ⟨o, A.N.get m1, ho⟩, hv, lo⟩
theorem At.dnew (O : CxOk W b d sc c) (A : At W c m H h x) : ∃ x' : LW, At W c m (H ++ [.sdict []]) (h.push { cls := .type "dict", data := .dict #[] }) x' ∧ Ext x x' ∧ x'.ad[H.length]? = some (h.objs.size, h.objs.size) := by
  have fk := fresh_key A
  have hn : ∀ a ∈ [((h.objs.size : Addr), ({ cls := .type "dict", data := .dict #[] } : Obj))].map (·.1), a ∉ x.led.map (·.1) := fun a ha => by
    cases ha with
    | head => exact fk
    | tail _ h => cases h
  have ho : ∀ a ∈ ownOf (h.objs.size, h.objs.size) (.sdict []), a ∈ [((h.objs.size : Addr), ({ cls := .type "dict", data := .dict #[] } : Obj))].map (·.1) := fun a ha => ha
  refine ⟨x.grow [(h.objs.size, { cls := .type "dict", data := .dict #[] })] (h.objs.size, h.objs.size) (.sdict []), A.grow (A.F.push _) (A.N.push A.F _ rfl) hn (by simp) ho (by simp [ownOf]) ?_, LW.grow_ext hn ho, LW.grow_at A.ok⟩
  obtain ⟨o, g, di⟩ := Heap.dictOf_iff.mp (Heap.DictOf.new (knd := PySem.strKind W.prog W.w) h)
  have e : o = { cls := .type "dict", data := .dict #[] } := Option.some.inj (g.symm.trans (Heap.get?_push_size _ rfl))
  subst e
  refine ⟨_, [], ?_, .head _, di, trivial⟩
  have h1 : sysModules < c.h₀.objs.size := modules_low O.T.nolimit
  have h2 : c.h₀.objs.size ≤ h.objs.size := Nat.le_trans A.F.above (Nat.le_of_lt A.F.ns.lt)
  exact beq_eq_false_iff_ne.mpr (Nat.ne_of_gt (Nat.lt_of_lt_of_le h1 h2))
noncomputable def Rd (W : Wd) (c : Cx) (fr : Fr2) (t : Sem Value) (v : AV) : Prop :=
  ∀ (H : Hp) (s : Shared) (m : Str → Option Value) (x : LW), At W c m H s.heap x → FrR W.kp c x fr m → ∀ (Q : Value → Shared → Prop) (E : Value → Shared → Prop),
    (∀ u h' t' x', At W c m H h' x' → Ext x x' → VR W.kp x' v u → Q u { s with heap := h', toks := t' }) → wpAny (model W.prog W.w) c.A t Q E s
inductive Pk (W : Wd) (c : Cx) (fr : Fr2) : List (Sem Value × Sem Value) → List (Str × AV) → Prop
  | nil : Pk W c fr [] []
  | cons {kt vt : Sem Value} {n : Str} {v : AV} {ps : List (Sem Value × Sem Value)} {l : List (Str × AV)} : Rd W c fr kt (.str n) → Rd W c fr vt v → Pk W c fr ps l → Pk W c fr ((kt, vt) :: ps) ((n, v) :: l)
noncomputable def mergedV (acc l : List (Str × AV)) : List (Str × AV) := l.foldl (fun a kv => storedV a kv.1 kv.2) acc
theorem storedV_len (l : List (Str × AV)) (n : Str) (v : AV) : (storedV l n v).length ≤ l.length + 1 := by
  unfold storedV
  split
  · rw [List.length_map]; exact Nat.le_succ _
  · rw [List.length_append]; exact Nat.le_refl _
theorem KvR.merged {K : KP} {x : LW} {l : List (Str × AV)} : ∀ {us : List (Str × Value)} {acc : List (Str × AV)} {ua : List (Str × Value)}, KvR K x acc ua → KvR K x l us → KvR K x (mergedV acc l) (PySem.merged ua us) := by
  induction l with
  | nil => intro us acc ua h r; cases us with | nil => exact h | cons _ _ => exact r.elim
  | cons f l ih =>
    intro us acc ua h r
    cases us with
    | nil => exact r.elim
    | cons e us =>
      show KvR K x (mergedV (storedV acc f.1 f.2) l) (PySem.merged (PySem.stored ua e.1 e.2) us)
      refine ih ?_ r.2.2
      rw [r.1]
      exact h.stored e.1 r.2.1
theorem Pk.eval {ps : List (Sem Value × Sem Value)} {l : List (Str × AV)} (r : Pk W c fr ps l) : ∀ {s : Shared} {m : Str → Option Value} {H : Hp} {x : LW}, At W c m H s.heap x → FrR W.kp c x fr m → ∀ {Q : List (Value × Value) → Shared → Prop} {E : Value → Shared → Prop},
    (∀ vs us h' t' x', At W c m H h' x' → Ext x x' → Carries (PySem.strKind W.prog W.w) vs us → KvR W.kp x' l us → Q vs { s with heap := h', toks := t' }) → wpAny (model W.prog W.w) c.A (evalPairs ps) Q E s := by
  induction r with
  | nil =>
    intro s m H x A F Q E h
    exact evalPairs_nil (h [] [] s.heap s.toks x A (Ext.refl x) trivial trivial)
  | cons hk hv _ ih =>
    intro s m H x A F Q E h
    refine evalPairs_cons (hk H s m x A F _ _ fun u h' t' x' A' e' r' => ?_)
    refine hv H { s with heap := h', toks := t' } m x' A' (F.mono e') _ _ fun u2 h2 t2 x2 A2 e2 r2 => ?_
    refine ih (s := { s with heap := h2, toks := t2 }) A2 (F.mono (e'.trans e2)) fun vs us h3 t3 x3 A3 e3 c3 k3 => ?_
    obtain ⟨tk, rfl⟩ := VR.s r'
    exact h _ ((_, u2) :: us) h3 t3 x3 A3 ((e'.trans e2).trans e3) ⟨strKind_is _ _ _ _, rfl, c3⟩ ⟨rfl, r2.mono e3, k3⟩
end
end
section
open PySem PySem.W PyProof.Rows PySem.Calls PySem.Spec
section
variable {prog : Program} {w : World} {K : Type} [DecidableEq K] {knd : KeyKind prog w K} {A : Around} {E : Value → Shared → Prop} {s : Shared}
theorem wpAny_dictPut_pairs {d : Addr} {kvs : List (K × Value)} {k : K} {key v : Value} {Q : Unit → Shared → Prop} (hkey : knd.is k key = true) (hm : s.heap.DictOf knd d kvs)
    (hQ : ∀ h', h'.DictOf knd d (stored kvs k v) → Heap.SameBut d s.heap h' → Q () { s with heap := h' }) (hsz : kvs.length ≤ sizeLine) :
    wpAny (model prog w) A (dictPut d (knd.hash k) key v) Q E s := by
  obtain ⟨o, es, ep, ho, hc, hd, hk, hp, hn⟩ := hm
  have hes : es.size ≤ sizeLine := by have e1 := hp.length; have e2 : es.toList.length = es.size := by simp
                                      omega
  unfold dictPut
  refine wpAny_bind (wpAny_dictFind_of hkey ho hd hk ?_)
  have hidx : (es.findIdx? fun e => knd.is k e.key) = kvs.findIdx? fun kv => decide (kv.1 = k) := by
    rw [← hp.findIdx k]; obtain ⟨l⟩ := es; simp
  cases hi : es.findIdx? fun e => knd.is k e.key with
  | some i =>
    refine wpAny_updateDict ho hd (hQ _ ⟨_, _, ep, Heap.get?_update_self _ ho (Obj.isFreed_of_dict (Obj.data_mapDict hd _)),
      hc.mapDict _, Obj.data_mapDict hd _, hk.modify _ _, ?_, ?_⟩ (Heap.SameBut.update ..))
    · rw [stored, if_pos (any_of_findIdx_some (hidx ▸ hi))]
      have hl : (es.toList.findIdx? fun e => knd.is k e.key) = some i := by rw [← hi]; obtain ⟨l⟩ := es; simp
      have := hp.modify hn hl v
      obtain ⟨l⟩ := es
      simpa using this
    · rw [stored, if_pos (any_of_findIdx_some (hidx ▸ hi)), keys_map_store]; exact hn
  | none =>
    have hnot : k ∉ kvs.map (·.1) := not_mem_of_findIdx_none (hidx ▸ hi)
    have hany : ¬ (kvs.any fun kv => decide (kv.1 = k)) = true := by
      rw [List.any_eq_true]; rintro ⟨kv, hkv, he⟩
      exact hnot (List.mem_map.mpr ⟨kv, hkv, of_decide_eq_true he⟩)
    refine wpAny_updateDictKeys (hz := hes) ho hd (hQ _ ⟨_, _, ep + 1, Heap.get?_update_self _ ho (Obj.isFreed_of_dict (Obj.data_mapDictKeys hd _)),
      hc.mapDictKeys _, Obj.data_mapDictKeys hd _, hk.push hkey _, ?_, ?_⟩ (Heap.SameBut.update ..))
    · rw [stored, if_neg hany]
      have := hp.append hkey (knd.hash k) v
      obtain ⟨l⟩ := es
      simpa using this
    · rw [stored, if_neg hany, List.map_append, List.nodup_append]
      refine ⟨hn, by simp, ?_⟩
      intro a ha b hb
      simp only [List.map_cons, List.map_nil, List.mem_singleton] at hb
      subst hb
      exact fun e => hnot (e ▸ ha)
theorem wpAny_mergeMapping {d o : Addr} {kvs more : List (K × Value)} {Q : Unit → Shared → Prop} (hdo : d ≠ o) (hoS : (o == sysModules) = false) (hd : s.heap.DictOf knd d kvs) (ho : s.heap.DictOf knd o more) (hne : kvs ≠ [])
    (hQ : ∀ h', h'.DictOf knd d (merged kvs more) → Heap.SameBut d s.heap h' → Q () { s with heap := h' }) (hsz : kvs.length + more.length ≤ sizeLine) :
    wpAny (model prog w) A (mergeMapping d (.ref o) false) Q E s := by
  obtain ⟨od, esd, epd, hod, hcd, hdd, hkd, hpd, hnd⟩ := id hd
  obtain ⟨oo, eso, epo, hoo, hco, hdo', hko, hpo, hno⟩ := id ho
  have hlen : more.length = eso.size := by rw [← hpo.length]; simp
  have hesd : esd.isEmpty = false := by
    have e1 := hpd.length
    have e2 : esd.toList.length = esd.size := by simp
    have e3 : kvs.length ≠ 0 := fun e => hne (List.length_eq_zero_iff.mp e)
    rw [Array.isEmpty_eq_false_iff]
    intro e
    rw [e] at e2
    simp at e2
    rw [e] at e1
    simp at e1
    exact e3 e1.symm
  unfold mergeMapping
  refine wpAny_bind (wpAny_isInstance (T := "dict") (U := "dict") ho.typeIs (b := true) (by rw [isSubtype_type]; kernel_rfl) ?_)
  rw [if_pos rfl]
  refine wpAny_bind (wpAny_specialOf ho.typeIs F.slot_dict_iter.lookup ?_)
  refine wpAny_bind (wpAny_pure ?_)
  dsimp only
  show wpAny _ _ (if (o == sysModules) = true then _ else _) _ _ _
  rw [if_neg (by rw [hoS]; exact Bool.false_ne_true)]
  refine wpAny_bind (wpAny_dictEntries hod hdd ?_)
  rw [if_neg (by rw [hesd]; exact Bool.false_ne_true)]
  refine wpAny_bind (wpAny_dictEntries hoo hdo' ?_)
  refine wpAny_bind (wpAny_dictEpoch hoo hdo' ?_)
  refine wpAny_bind ?_
  refine wpAny_forIn_list _
      (fun rest _ s' => ∃ h' i, s' = { s with heap := h' } ∧ rest = (List.range eso.size).drop i ∧ i ≤ eso.size ∧ h'.DictOf knd d (merged kvs (more.take i)) ∧ h'.get? o = some oo ∧ Heap.SameBut d s.heap h')
      _ ?_ ?_ (List.range eso.size) PUnit.unit ⟨s.heap, 0, rfl, by simp, Nat.zero_le _, by simpa [merged] using hd, hoo, Heap.SameBut.refl _ _⟩
  · rintro x rest b s' ⟨h', i, rfl, hr, hi, hd', hoo', hs'⟩
    have hlt : i < eso.size := by
      rcases Nat.lt_or_ge i eso.size with h | h
      · exact h
      · rw [List.drop_eq_nil_of_le (by simpa using h)] at hr; simp at hr
    obtain ⟨rfl, hrest⟩ : x = i ∧ rest = (List.range eso.size).drop (i + 1) := by
      rw [List.drop_eq_getElem_cons (by simpa using hlt)] at hr
      injection hr with h1 h2
      exact ⟨by simpa using h1, h2⟩
    refine wpAny_bind (wpAny_dictEntries hoo' hdo' ?_)
    rw [Array.getElem?_eq_getElem hlt]
    obtain ⟨kv, hkv⟩ : ∃ kv, more[x]? = some kv := ⟨more[x]'(by rw [hlen]; exact hlt), List.getElem?_eq_getElem _⟩
    obtain ⟨k, v⟩ := kv
    obtain ⟨hkey, hval⟩ := hpo.get? (e := eso[x]) (by simp [hlt]) hkv
    obtain ⟨k', hkey', hhash⟩ := hko eso[x] (Array.getElem_mem hlt)
    obtain rfl : k' = k := knd.inj _ _ _ hkey' hkey
    dsimp only
    have hmx : (merged kvs (more.take x)).length ≤ sizeLine := by
      have e1 := merged_length_le kvs (more.take x)
      have e2 : (more.take x).length ≤ more.length := by rw [List.length_take]; omega
      omega
    refine wpAny_bind (wpAny_holding ?_)
    rw [if_neg Bool.false_ne_true]
    rw [hhash, hval]
    refine wpAny_dictPut_pairs (hsz := hmx) hkey hd' fun h'' hd'' hs'' => ?_
    have hoo'' : h''.get? o = some oo := (hs''.2 o (Ne.symm hdo)).trans hoo'
    refine wpAny_bind (wpAny_dictEpoch hoo'' hdo' ?_)
    rw [if_neg (by simp)]
    exact (wpAny_pure ⟨h'', x + 1, rfl, hrest, hlt, by rw [merged_take_succ kvs more x (k', v) hkv]; exact hd'', hoo'', hs'.trans hs''⟩)
  · rintro b s' ⟨h', i, rfl, hr, hi, hd', hoo', hs'⟩
    have hin : i = eso.size := by
      rcases Nat.lt_or_ge i eso.size with h | h
      · rw [List.drop_eq_getElem_cons (by simpa using h)] at hr; exact nomatch hr
      · exact Nat.le_antisymm hi h
    refine wpAny_pure ?_
    refine hQ h' ?_ hs'
    rw [hin, ← hlen, List.take_length] at hd'; exact hd'
end
end
section
open PySem PySem.W PyProof.Rows PySem.Calls PySem.Spec
theorem atLast {H : Hp} {O : MO} : (H ++ [O])[H.length]? = some O := by
  rw [List.getElem?_append_right (Nat.le_refl _), Nat.sub_self]; rfl
theorem setLast {H : Hp} {O O' : MO} : (H ++ [O]).set H.length O' = H ++ [O'] := by
  rw [List.set_append_right _ _ (Nat.le_refl _), Nat.sub_self]; rfl
section
variable {W : Wd} {b : Bool} {d : Nat} {sc : Scope} {fr : Fr2} {H : Hp} {c : Cx} {m : Str → Option Value} {x : LW} {s : Shared} {E : Value → Shared → Prop}
theorem sub_short {ps : List (Sem Value × Sem Value)} {l : List (Str × AV)} {Q : Addr → Shared → Prop} (O : CxOk W b d sc c) (pk : Pk W c fr ps l) (hlen : ps.length ≤ 15) (A : At W c m H s.heap x) (F : FrR W.kp c x fr m)
    (h : ∀ (q : Addr × Addr) h' t' x', At W c m (H ++ [.sdict (mergedV [] l)]) h' x' → Ext x x' → x'.ad[H.length]? = some q → Q q.1 { s with heap := h', toks := t' }) : wpAny (model W.prog W.w) c.A (subDict ps) Q E s := by
  obtain ⟨x0, A0, e0, q0⟩ := A.dnew O
  refine wpAny_subDict (knd := PySem.strKind W.prog W.w) hlen ?_
  refine pk.eval (s := { s with heap := s.heap.push { cls := .type "dict", data := .dict #[] } }) A0 (F.mono e0) fun vs us h' t' x' A' e' cr kr => ?_
  obtain ⟨us0, hd, hv, lo⟩ := A'.dict atLast (e'.at q0)
  have : us0 = [] := by cases us0 with | nil => rfl | cons _ _ => exact hv.elim
  subst this
  refine ⟨us, cr, hd, fun h2 hd2 hs2 => ?_⟩
  obtain ⟨x2, A2, e2, ad2⟩ := A'.dset atLast (e'.at q0) hs2 hd2 (l' := mergedV [] l) fun z ez => KvR.merged trivial (KvR.monoV ez.toS.toV kr)
  rw [setLast] at A2
  exact h (s.heap.objs.size, s.heap.objs.size) h2 _ x2 A2 ((e0.trans e').trans e2) ((e'.trans e2).at q0)
inductive SubI (W : Wd) (c : Cx) (m : Str → Option Value) (fr : Fr2) (H : Hp) (l : List (Str × AV)) (s : Shared) (x : LW) (q : Addr × Addr) : List (Sem Value × Sem Value) → Shared → Prop
  | mk {rest : List (Sem Value × Sem Value)} {h' : Heap} {t' : Nat} {x' : LW} {l' acc : List (Str × AV)} : Pk W c fr rest l' → At W c m (H ++ [.sdict acc]) h' x' → Ext x x' → x'.ad[H.length]? = some q → mergedV acc l' = mergedV [] l → acc.length + l'.length ≤ 1000 → SubI W c m fr H l s x q rest { s with heap := h', toks := t' }
theorem sub_long {ps : List (Sem Value × Sem Value)} {l : List (Str × AV)} {Q : Addr → Shared → Prop} (O : CxOk W b d sc c) (pk : Pk W c fr ps l) (hlen : ¬ ps.length ≤ 15) (hl : l.length ≤ 1000) (A : At W c m H s.heap x) (F : FrR W.kp c x fr m)
    (h : ∀ (q : Addr × Addr) h' t' x', At W c m (H ++ [.sdict (mergedV [] l)]) h' x' → Ext x x' → x'.ad[H.length]? = some q → Q q.1 { s with heap := h', toks := t' }) : wpAny (model W.prog W.w) c.A (subDict ps) Q E s := by
  obtain ⟨x0, A0, e0, q0⟩ := A.dnew O
  unfold subDict
  refine wpAny_bind (wpAny_alloc ?_)
  refine wpAny_bind (wpAny_holding ?_)
  rw [if_neg hlen]
  refine wpAny_bind (wpAny_rule ?_)
  refine wpAny_bind ?_
  refine wpAny_forIn_list _ (fun rest _ s' => SubI W c m fr H l s x (s.heap.objs.size, s.heap.objs.size) rest s') _ ?_ ?_ ps PUnit.unit (.mk pk A0 e0 q0 rfl ((Nat.zero_add _).symm ▸ hl))
  · rintro ⟨kt, vt⟩ rest _ s' J
    cases J with
    | mk pk' A' e' q' hm hsz =>
    rename_i h' t' x' l' acc
    cases pk' with
    | cons hk hv pk' =>
    rename_i n v l''
    refine wpAny_bind (hk _ { s with heap := h', toks := t' } m x' A' (F.mono e') _ _ fun u h2 t2 x2 A2 e2 r2 => ?_)
    refine wpAny_bind (wpAny_holding (hv _ { s with heap := h2, toks := t2 } m x2 A2 (F.mono (e'.trans e2)) _ _ fun u3 h3 t3 x3 A3 e3 r3 => ?_))
    obtain ⟨tk, rfl⟩ := VR.s r2
    obtain ⟨us, hd, kv, lo⟩ := A3.dict atLast ((e2.trans e3).at q')
    simp only [List.length_cons] at hsz
    have hul : us.length ≤ sizeLine := by
      have := kv.length
      rw [sizeLine_eq]; omega
    refine wpAny_bind (wpAny_holding (wpAny_dictSet_pairs (hsz := hul) (s := { s with heap := h3, toks := t3 }) (strKind_is _ _ _ _) hd fun h4 hd4 hs4 => ?_))
    obtain ⟨x4, A4, e4, ad4⟩ := A3.dset atLast ((e2.trans e3).at q') hs4 hd4 (l' := storedV acc n v) fun z ez => KvR.stored n (r3.mono ez) (KvR.monoV ez.toS.toV kv)
    rw [setLast] at A4
    refine wpAny_pure (.mk pk' A4 (((e'.trans e2).trans e3).trans e4) (((e2.trans e3).trans e4).at q') hm ?_)
    have := storedV_len acc n v
    omega
  · intro _ s' J
    cases J with
    | mk pk' A' e' q' hm hsz =>
    rename_i h' t' x' l' acc
    cases pk' with
    | nil =>
    have hm' : acc = mergedV [] l := hm
    subst hm'
    exact wpAny_pure (wpAny_pure (h (s.heap.objs.size, s.heap.objs.size) h' t' x' A' e' q'))
end
section
variable {prog : Program} {w : World} {A : Around} {E : Value → Shared → Prop} {s : Shared}
noncomputable abbrev Pr := Sem Value × Sem Value
theorem gatherA (main : Option Addr) (f : (Option (Sem Value) × Sem Value) → (Option Addr × List Pr) → Sem (ForInStep (Option Addr × List Pr)))
    (hf : ∀ (p : Pr) (run : List Pr), run.length + 1 < 17 → f (some p.1, p.2) (main, run) = pure (.yield (main, run ++ [p]))) :
    ∀ (items : List Pr) (tail : List (Option (Sem Value) × Sem Value)) (run : List Pr), run.length + items.length < 17 → forIn (items.map (fun p => (some p.1, p.2)) ++ tail) (main, run) f = forIn tail (main, run ++ items) f
  | [], tail, run, _ => by simp
  | p :: rest, tail, run, h => by
    rw [List.map_cons, List.cons_append, List.forIn_cons, hf p run (by simp at h; omega), pure_bind]
    have := gatherA main f hf rest tail (run ++ [p]) (by simp at h ⊢; omega)
    simpa using this
theorem wpAny_display {X B : List Pr} {p : Pr} {Q : Value → Shared → Prop} (hX : X.length = 16) (hB : B.length < 17)
    (h : wpAny (model prog w) A (subDict (X ++ [p])) (fun d s₁ => if B = [] then Q (.ref d) s₁ else
      wpAny (model prog w) A (subDict B) (fun sub s₂ => ∀ E', wpAny (model prog w) A (mergeMapping d (.ref sub) false) (fun _ s₃ => Q (.ref d) s₃) E' s₂) E s₁) E s) :
    wpAny (model prog w) A (dictDisplay ((X ++ p :: B).map fun p => (some p.1, p.2))) Q E s := by
  unfold dictDisplay
  dsimp only
  rw [List.map_append, List.map_cons]
  refine wpAny_bind ?_
  rw [gatherA none _ (fun q run h => by
    have hne : ((run ++ [(q.1, q.2)]).length == 17) = false := by simp; omega
    simp only [hne, Bool.false_eq_true, if_false]) X _ [] (by simpa using (by omega : X.length < 17))]
  rw [List.nil_append, List.forIn_cons]
  have h17 : ((X ++ [(p.1, p.2)]).length == 17) = true := by simp; omega
  simp only [h17, if_true]
  have hne : (X ++ [(p.1, p.2)]).isEmpty = false := by simp
  simp only [hne, Bool.false_eq_true, if_false]
  refine wpAny_bind (wpAny_bind (wpAny_bind ?_))
  refine wpAny_mono h (fun d s₁ h₁ => ?_) fun _ _ e => e
  refine wpAny_pure (wpAny_pure ?_)
  dsimp only
  have g := fun f hf => gatherA (some d) f hf B [] [] (by simpa using hB)
  simp only [List.append_nil, List.nil_append, List.forIn_nil] at g
  rw [g _ (fun q run h => by
    have hne : ((run ++ [(q.1, q.2)]).length == 17) = false := by simp; omega
    simp only [hne, Bool.false_eq_true, if_false])]
  refine wpAny_pure ?_
  dsimp only
  by_cases hb : B = []
  · subst hb
    rw [if_pos rfl] at h₁
    exact wpAny_bind (wpAny_pure (wpAny_pure h₁))
  · rw [if_neg hb] at h₁
    have hbe : B.isEmpty = false := by cases B with | nil => exact absurd rfl hb | cons _ _ => rfl
    simp only [hbe, Bool.false_eq_true, if_false]
    refine wpAny_bind (wpAny_bind (wpAny_holding (wpAny_mono h₁ (fun sub s₂ h₂ => ?_) fun _ _ e => e)))
    refine wpAny_bind (wpAny_onRaise (wpAny_holding (wpAny_mono (h₂ _) (fun _ s₃ h₃ => ?_) fun _ _ e => e)))
    exact wpAny_pure (wpAny_pure h₃)
end
end
section
open PySem PySem.W PyProof.Rows PySem.Calls PySem.Spec
mutual
noncomputable def AV.bd (n : Nat) : AV → Prop
  | .tup l => AV.bds n l
  | .fl l => AV.bds n l
  | .obj k => k < n
  | _ => True
noncomputable def AV.bds (n : Nat) : List AV → Prop
  | [] => True
  | v :: l => AV.bd n v ∧ AV.bds n l
end
theorem VR.bd {K : KP} {x : LW} {v : AV} {u : Value} (h : VR K x v u) : v.bd x.ad.length :=
  VR.rec (motive_1 := fun v u _ => v.bd x.ad.length) (motive_2 := fun v u _ => AV.bds x.ad.length v) (fun _ _ => trivial) (fun _ => trivial) trivial (fun _ _ => trivial) (fun _ _ _ h => h) (fun _ _ h => h) (fun _ _ _ h => h) (fun h => (List.getElem?_eq_some_iff.mp h).1) (fun _ _ _ _ _ => trivial) (fun _ => trivial) (fun _ => trivial) trivial (fun _ _ h t => ⟨h, t⟩) h
theorem VRs.bd {K : KP} {x : LW} {v : List AV} {u : List Value} (h : VRs K x v u) : AV.bds x.ad.length v :=
  VRs.rec (motive_1 := fun v u _ => v.bd x.ad.length) (motive_2 := fun v u _ => AV.bds x.ad.length v) (fun _ _ => trivial) (fun _ => trivial) trivial (fun _ _ => trivial) (fun _ _ _ h => h) (fun _ _ h => h) (fun _ _ _ h => h) (fun h => (List.getElem?_eq_some_iff.mp h).1) (fun _ _ _ _ _ => trivial) (fun _ => trivial) (fun _ => trivial) trivial (fun _ _ h t => ⟨h, t⟩) h
structure Cut (n : Nat) (x x' : LW) : Prop where
  ad : ∀ k p, k < n → x.ad[k]? = some p → x'.ad[k]? = some p
  led : ∀ p ∈ x.led, p.1 ∉ x.own → p ∈ x'.led
  own : ∀ a ∈ x'.own, a ∈ x.own
theorem VR.cut {K : KP} {n : Nat} {x x' : LW} (e : Cut n x x') {v : AV} {u : Value} (h : VR K x v u) : v.bd n → VR K x' v u :=
  VR.rec (motive_1 := fun v u _ => v.bd n → VR K x' v u) (motive_2 := fun v u _ => AV.bds n v → VRs K x' v u) (fun i t _ => .int i t) (fun b _ => .bool b) (fun _ => .none) (fun s t _ => .str s t) (fun h1 h2 _ h3 hb => .tup (e.led _ h1 h2) (fun q => h2 (e.own _ q)) (h3 hb)) (fun h1 _ h3 hb => .ktup h1 (h3 hb)) (fun h1 h2 _ h3 hb => .fl (e.led _ h1 h2) (fun q => h2 (e.own _ q)) (h3 hb)) (fun h hb => .obj (e.ad _ _ hb h)) (fun h1 h2 h3 h4 h5 _ => .sd (e.led _ h1 h2) (fun q => h2 (e.own _ q)) h3 h4 h5) (fun v _ => .val v) (fun v _ => .any v) (fun _ => .nil) (fun _ _ h t hb => .cons (h hb.1) (t hb.2)) h
theorem VRs.cut {K : KP} {n : Nat} {x x' : LW} (e : Cut n x x') {v : List AV} {u : List Value} (h : VRs K x v u) : AV.bds n v → VRs K x' v u :=
  VRs.rec (motive_1 := fun v u _ => v.bd n → VR K x' v u) (motive_2 := fun v u _ => AV.bds n v → VRs K x' v u) (fun i t _ => .int i t) (fun b _ => .bool b) (fun _ => .none) (fun s t _ => .str s t) (fun h1 h2 _ h3 hb => .tup (e.led _ h1 h2) (fun q => h2 (e.own _ q)) (h3 hb)) (fun h1 _ h3 hb => .ktup h1 (h3 hb)) (fun h1 h2 _ h3 hb => .fl (e.led _ h1 h2) (fun q => h2 (e.own _ q)) (h3 hb)) (fun h hb => .obj (e.ad _ _ hb h)) (fun h1 h2 h3 h4 h5 _ => .sd (e.led _ h1 h2) (fun q => h2 (e.own _ q)) h3 h4 h5) (fun v _ => .val v) (fun v _ => .any v) (fun _ => .nil) (fun _ _ h t hb => .cons (h hb.1) (t hb.2)) h
noncomputable def MO.bd (n : Nat) : MO → Prop
  | .list l => AV.bds n l
  | .inst _ fs => ∀ f ∈ fs, f.2.bd n
  | .idict l => ∀ f ∈ l, f.2.bd n
  | .sdict l => ∀ f ∈ l, f.2.bd n
  | .ns l => ∀ f ∈ l, f.2.bd n
theorem FsR.bd {K : KP} {x : LW} {fs : List (Str × AV)} : ∀ {es : List DictEntry}, FsR K x fs es → ∀ f ∈ fs, f.2.bd x.ad.length := by
  induction fs with
  | nil => intro es r f h; cases h
  | cons g fs ih =>
    intro es r f h
    cases es with
    | nil => exact r.elim
    | cons _ _ => exact (List.mem_cons.mp h).elim (fun q => q ▸ r.2.1.bd) fun h => ih r.2.2 f h
theorem KvR.bd {α : Type} {K : KP} {x : LW} {fs : List (α × AV)} : ∀ {es : List (α × Value)}, KvR K x fs es → ∀ f ∈ fs, f.2.bd x.ad.length := by
  induction fs with
  | nil => intro es r f h; cases h
  | cons g fs ih =>
    intro es r f h
    cases es with
    | nil => exact r.elim
    | cons _ _ => exact (List.mem_cons.mp h).elim (fun q => q ▸ r.2.1.bd) fun h => ih r.2.2 f h
theorem ORel.bd {K : KP} {x : LW} {p : Addr × Addr} {O : MO} (r : ORel K x p O) : O.bd x.ad.length := by
  cases O with
  | list _ => obtain ⟨_, _, _, b⟩ := r; exact b.bd
  | inst _ _ => obtain ⟨_, _, _, _, c⟩ := r; exact c.bd
  | idict _ => obtain ⟨_, _, _, _, _, c⟩ := r; exact c.bd
  | sdict _ => obtain ⟨_, _, _, _, _, c⟩ := r; exact c.bd
  | ns _ => obtain ⟨_, _, _, _, c⟩ := r; exact fun f h => (c f.1 f.2 h).elim fun _ r => r.2.bd
theorem FsR.cut {K : KP} {n : Nat} {x x' : LW} (e : Cut n x x') {fs : List (Str × AV)} : ∀ {es : List DictEntry}, FsR K x fs es → (∀ f ∈ fs, f.2.bd n) → FsR K x' fs es := by
  induction fs with
  | nil => intro es r _; cases es with | nil => exact r | cons _ _ => exact r
  | cons g fs ih =>
    intro es r h
    cases es with
    | nil => exact r
    | cons _ _ => exact ⟨r.1, r.2.1.cut e (h g (.head _)), ih r.2.2 fun f hf => h f (.tail _ hf)⟩
theorem KvR.cut {α : Type} {K : KP} {n : Nat} {x x' : LW} (e : Cut n x x') {fs : List (α × AV)} : ∀ {es : List (α × Value)}, KvR K x fs es → (∀ f ∈ fs, f.2.bd n) → KvR K x' fs es := by
  induction fs with
  | nil => intro es r _; cases es with | nil => exact r | cons _ _ => exact r
  | cons g fs ih =>
    intro es r h
    cases es with
    | nil => exact r
    | cons _ _ => exact ⟨r.1, r.2.1.cut e (h g (.head _)), ih r.2.2 fun f hf => h f (.tail _ hf)⟩
theorem ORel.cut {K : KP} {n : Nat} {x x' : LW} {p : Addr × Addr} (e : Cut n x x') {O : MO} (r : ORel K x p O) (h : O.bd n) (l : ∀ a o, a ∈ ownOf p O → (a, o) ∈ x.led → (a, o) ∈ x'.led) : ORel K x' p O := by
  cases O with
  | list _ => obtain ⟨its, k, a, b⟩ := r; exact ⟨its, k, l _ _ (.head _) a, b.cut e h⟩
  | inst _ _ => obtain ⟨es, k, a, b, c⟩ := r; exact ⟨es, k, l _ _ (.head _) a, l _ _ (.tail _ (.head _)) b, c.cut e h⟩
  | idict _ => obtain ⟨o, us, z, a, b, c⟩ := r; exact ⟨o, us, z, l _ _ (.head _) a, b, c.cut e h⟩
  | sdict _ => obtain ⟨o, us, z, a, b, c⟩ := r; exact ⟨o, us, z, l _ _ (.head _) a, b, c.cut e h⟩
  | ns _ => obtain ⟨o, m, a, b, c⟩ := r; exact ⟨o, m, l _ _ (.head _) a, b, fun y v q => (c y v q).elim fun u d => ⟨u, d.1, d.2.cut e (h (y, v) q)⟩⟩
theorem LwOk.bd {K : KP} {H : Hp} {x : LW} (w : LwOk K H x) {k : Nat} {O : MO} (h : H[k]? = some O) : O.bd H.length := by
  have hk := (List.getElem?_eq_some_iff.mp h).1
  have hp : x.ad[k]? = some (x.ad[k]'(w.len ▸ hk)) := List.getElem?_eq_getElem _
  have := (w.objs k O _ h hp).bd
  rwa [w.len] at this
theorem ownAll_sub : ∀ {H : Hp} {ad : List (Addr × Addr)} {k : Nat} {O : MO} {p : Addr × Addr}, H[k]? = some O → ad[k]? = some p → (ownOf p O).Sublist (ownAll H ad)
  | [], _, k, O, p, h, _ => by simp at h
  | _ :: _, [], k, O, p, _, h => by simp at h
  | O' :: H, p' :: ad, 0, O, p, h, h' => by
    simp only [List.getElem?_cons_zero, Option.some.injEq] at h h'
    subst h h'
    exact List.sublist_append_left _ _
  | O' :: H, p' :: ad, k + 1, O, p, h, h' => by
    simp only [List.getElem?_cons_succ] at h h'
    exact (ownAll_sub h h').trans (List.sublist_append_right _ _)
theorem ownAll_nodup : ∀ {H : Hp} {ad : List (Addr × Addr)}, (∀ (k : Nat) (O : MO) (p : Addr × Addr), H[k]? = some O → ad[k]? = some p → (ownOf p O).Nodup) →
    (∀ (j k : Nat) (O O' : MO) (p p' : Addr × Addr) (a : Addr), H[j]? = some O → ad[j]? = some p → H[k]? = some O' → ad[k]? = some p' → j ≠ k → a ∈ ownOf p O → a ∉ ownOf p' O') → (ownAll H ad).Nodup
  | [], _, _, _ => List.nodup_nil
  | _ :: _, [], _, _ => List.nodup_nil
  | O :: H, p :: ad, h1, h2 => by
    refine List.nodup_append.mpr ⟨h1 0 O p rfl rfl, ownAll_nodup (fun k O p a b => h1 (k + 1) O p a b) (fun j k O O' p p' a q1 q2 q3 q4 n => h2 (j + 1) (k + 1) O O' p p' a q1 q2 q3 q4 (fun e => n (Nat.succ.inj e))), fun a ha b hb e => ?_⟩
    subst e
    have mem : ∀ {H : Hp} {ad : List (Addr × Addr)} {a : Addr}, a ∈ ownAll H ad → ∃ (k : Nat) (O : MO) (p : Addr × Addr), H[k]? = some O ∧ ad[k]? = some p ∧ a ∈ ownOf p O := by
      intro H
      induction H with
      | nil => intro ad a h; simp [ownAll] at h
      | cons X H ih =>
        intro ad a h
        cases ad with
        | nil => simp [ownAll] at h
        | cons q ad =>
          rcases List.mem_append.mp h with h | h
          · exact ⟨0, X, q, rfl, rfl, h⟩
          · obtain ⟨k, O, p, e1, e2, e3⟩ := ih h
            exact ⟨k + 1, O, p, e1, e2, e3⟩
    obtain ⟨k, O', p', e1, e2, e3⟩ := mem hb
    exact h2 0 (k + 1) O O' p p' a rfl rfl e1 e2 (by simp) ha e3
theorem ownAll_of {H : Hp} {ad : List (Addr × Addr)} {a : Addr} (h : a ∈ ownAll H ad) : ∃ (k : Nat) (O : MO) (p : Addr × Addr), H[k]? = some O ∧ ad[k]? = some p ∧ a ∈ ownOf p O := by
  induction H generalizing ad with
  | nil => simp [ownAll] at h
  | cons X H ih =>
    cases ad with
    | nil => simp [ownAll] at h
    | cons q ad =>
      rcases List.mem_append.mp h with h | h
      · exact ⟨0, X, q, rfl, rfl, h⟩
      · obtain ⟨k, O, p, e1, e2, e3⟩ := ih h
        exact ⟨k + 1, O, p, e1, e2, e3⟩
noncomputable def LW.re (x : LW) (H : Hp) (σ : Nat → Nat) : LW := { led := x.led, ad := (List.range H.length).map fun j => x.ad.getD (σ j) (0, 0), own := ownAll H ((List.range H.length).map fun j => x.ad.getD (σ j) (0, 0)) }
section
variable {W : Wd} {c : Cx} {m : Str → Option Value} {h : Heap} {x : LW} {H H₂ : Hp} {σ : Nat → Nat}
theorem LW.re_at {j : Nat} {p : Addr × Addr} (hj : j < H₂.length) (hp : x.ad[σ j]? = some p) : (x.re H₂ σ).ad[j]? = some p := by
  show ((List.range H₂.length).map _)[j]? = _
  rw [List.getElem?_map, List.getElem?_range hj]
  show some (x.ad.getD (σ j) (0, 0)) = some p
  rw [List.getD_eq_getElem?_getD, hp]; rfl
theorem At.relay (A : At W c m H h x) (inj : ∀ i j, i < H₂.length → j < H₂.length → σ i = σ j → i = j)
    (ho : ∀ j O₂, H₂[j]? = some O₂ → ∃ O, H[σ j]? = some O ∧ sameKind O O₂ ∧ ∀ p, ORel W.kp x p O → ORel W.kp (x.re H₂ σ) p O₂) : At W c m H₂ h (x.re H₂ σ) ∧ ∀ a ∈ (x.re H₂ σ).own, a ∈ x.own := by
  have key : ∀ {j : Nat} {O₂ : MO} {p : Addr × Addr}, H₂[j]? = some O₂ → (x.re H₂ σ).ad[j]? = some p → ∃ O, H[σ j]? = some O ∧ x.ad[σ j]? = some p ∧ ownOf p O = ownOf p O₂ ∧ ORel W.kp (x.re H₂ σ) p O₂ := by
    intro j O₂ p h1 h2
    obtain ⟨O, e1, e2, e3⟩ := ho j O₂ h1
    have hl : σ j < x.ad.length := by rw [A.ok.len]; exact (List.getElem?_eq_some_iff.mp e1).1
    have hp : x.ad[σ j]? = some (x.ad[σ j]) := List.getElem?_eq_getElem hl
    have := LW.re_at (x := x) (H₂ := H₂) (σ := σ) (List.getElem?_eq_some_iff.mp h1).1 hp
    rw [this] at h2
    cases h2
    exact ⟨O, e1, hp, ownOf_same e2, e3 _ (A.ok.objs _ O _ e1 hp)⟩
  have hown : ∀ a ∈ (x.re H₂ σ).own, a ∈ x.own := by
    intro a ha
    obtain ⟨k, O₂, p, e1, e2, e3⟩ := ownAll_of ha
    obtain ⟨O, f1, f2, f3, _⟩ := key e1 e2
    exact A.owned f1 f2 (f3 ▸ e3)
  refine ⟨⟨A.F, A.N, ⟨A.ok.keys, rfl, ?_, ?_, fun k O p hk hp => ?_⟩⟩, hown⟩
  · refine ownAll_nodup (fun k O p h1 h2 => ?_) (fun j k O O' p p' a h1 h2 h3 h4 n ha hb => ?_)
    · obtain ⟨O', f1, f2, f3, _⟩ := key h1 h2
      rw [← f3]
      exact (ownAll_sub f1 f2).nodup (A.ok.own ▸ A.ok.nd)
    · obtain ⟨Q, f1, f2, f3, _⟩ := key h1 h2
      obtain ⟨Q', g1, g2, g3, _⟩ := key h3 h4
      exact ownAll_apart (A.ok.own ▸ A.ok.nd) f1 f2 g1 g2 (fun e => n (inj _ _ (List.getElem?_eq_some_iff.mp h1).1 (List.getElem?_eq_some_iff.mp h3).1 e)) (f3 ▸ ha) (g3 ▸ hb) rfl
  · show ((List.range H₂.length).map _).length = _
    rw [List.length_map, List.length_range]
  · obtain ⟨_, _, _, _, r⟩ := key hk hp
    exact r
theorem Ext.re {x₀ : LW} (e : Ext x₀ x) (hs : ∀ k p, x₀.ad[k]? = some p → k < H₂.length ∧ σ k = k) (ho : ∀ a ∈ (x.re H₂ σ).own, a ∈ x.own) : Ext x₀ (x.re H₂ σ) := by
  refine ⟨?_, e.led, fun a ha => e.own a (ho a ha), e.keys⟩
  rw [List.prefix_iff_getElem?]
  intro i hi
  have h1 : x₀.ad[i]? = some x₀.ad[i] := List.getElem?_eq_getElem hi
  obtain ⟨h2, h3⟩ := hs i _ h1
  exact LW.re_at h2 (by rw [h3]; exact e.at h1)
theorem Cut.re {n : Nat} (hs : ∀ k, k < n → k < H₂.length ∧ σ k = k) (ho : ∀ a ∈ (x.re H₂ σ).own, a ∈ x.own) : Cut n x (x.re H₂ σ) :=
  ⟨fun k p hk hp => LW.re_at (hs k hk).1 (by rw [(hs k hk).2]; exact hp), fun _ h _ => h, ho⟩
end
end
section
open PySem PySem.W PyProof.Rows PySem.Calls PySem.Spec
section
variable {W : Wd} {b : Bool} {d : Nat} {sc : Scope} {fr fr' : Fr2} {H H₁ H₂ H₃ : Hp} {v v' : AV} {e : PySem.Expr} {p : Pos} {fl : Fl}
inductive KVs (W : Wd) (b : Bool) (d : Nat) (sc : Scope) (fr : Fr2) : List (PySem.Expr × PySem.Expr) → List (Str × AV) → Prop
  | nil : KVs W b d sc fr [] []
  | cons {ke ve : PySem.Expr} {n : Str} {v : AV} {kvs : List (PySem.Expr × PySem.Expr)} {l : List (Str × AV)} : (∀ H, Ev W b d sc ke fr H (.str n) H) → (∀ H, Ev W b d sc ve fr H v H) → KVs W b d sc fr kvs l → KVs W b d sc fr ((ke, ve) :: kvs) ((n, v) :: l)
noncomputable abbrev prs (kvs : List (PySem.Expr × PySem.Expr)) (pos : Pos) (env : Env) : List Pr := kvs.map fun z => (eval z.1 env, do let x ← eval z.2 env; standAt pos; pure x)
theorem prs_shape (pos : Pos) (env : Env) : ∀ (kvs : List (PySem.Expr × PySem.Expr)), (evalEachOpt (kvs.map fun z => some z.1) env).zip ((evalEach (kvs.map (·.2)) env).map fun v => do let x ← v; standAt pos; pure x) = (prs kvs pos env).map fun p => (some p.1, p.2)
  | [] => rfl
  | z :: kvs => by
    show (some (eval z.1 env), _) :: (evalEachOpt (kvs.map fun z => some z.1) env).zip ((evalEach (kvs.map (·.2)) env).map _) = _
    rw [prs_shape pos env kvs]
    rfl
theorem KVs.pk {c : Cx} (O : CxOk W b d sc c) {kvs : List (PySem.Expr × PySem.Expr)} {l : List (Str × AV)} (k : KVs W b d sc fr kvs l) (pos : Pos) : Pk W c fr (prs kvs pos (c.env sc)) l := by
  induction k with
  | nil => exact .nil
  | cons h1 h2 _ ih =>
    refine .cons (fun H s m x A F Q E h => h1 H c O s m x A F Q E fun u h' t' x' A' e' r' => h u h' t' x' A' e' r') (fun H s m x A F Q E h => ?_) ih
    refine wpAny_bind (h2 H c O s m x A F _ E fun u h' t' x' A' e' r' => ?_)
    exact wpAny_bind (wpAny_standAt (wpAny_pure (h u h' t' x' A' e' r')))
theorem KVs.length {kvs : List (PySem.Expr × PySem.Expr)} {l : List (Str × AV)} (k : KVs W b d sc fr kvs l) : kvs.length = l.length := by
  induction k with
  | nil => rfl
  | cons _ _ _ ih => simp [ih]
theorem Ev.dict17 {X : List (PySem.Expr × PySem.Expr)} {z : PySem.Expr × PySem.Expr} {l L : List (Str × AV)} (hX : X.length = 16) (k : KVs W b d sc fr (X ++ [z]) l) (hL : mergedV [] l = L) :
    Ev W b d sc (.Dict ((X ++ [z]).map fun z => some z.1) ((X ++ [z]).map (·.2)) p) fr H (.obj H.length) (H ++ [.sdict L]) := by
  subst hL
  intro c O s m x A F Q E h
  rw [arm_eval_Dict, prs_shape]
  refine wpAny_bind (wpAny_standAt ?_)
  have hl := k.length
  rw [List.length_append, hX] at hl
  have pk := k.pk O p
  have hm : prs (X ++ [z]) p (c.env sc) = prs X p (c.env sc) ++ (eval z.1 (c.env sc), do let x ← eval z.2 (c.env sc); standAt p; pure x) :: [] := by unfold prs; rw [List.map_append]; rfl
  rw [hm] at pk ⊢
  refine wpAny_display (by rw [List.length_map, hX]) (by decide) ?_
  refine sub_long O pk (by rw [List.length_append, List.length_map, hX, List.length_singleton]; decide) (by rw [← hl, List.length_singleton]; decide) A F fun q h' t' x' A' e' hq => ?_
  rw [if_pos rfl]
  exact h _ h' t' x' A' e' (.obj hq)
theorem Ev.dict24 {X B : List (PySem.Expr × PySem.Expr)} {z : PySem.Expr × PySem.Expr} {l lB L LB : List (Str × AV)} (hX : X.length = 16) (k : KVs W b d sc fr (X ++ [z]) l) (kB : KVs W b d sc fr B lB) (h0 : B ≠ []) (hB : B.length ≤ 15) (hne : mergedV [] l ≠ []) (hL : mergedV (mergedV [] l) (mergedV [] lB) = L) (hLB : mergedV [] lB = LB) :
    Ev W b d sc (.Dict ((X ++ z :: B).map fun z => some z.1) ((X ++ z :: B).map (·.2)) p) fr H (.obj H.length) (H ++ [.sdict L, .sdict LB]) := by
  subst hL hLB
  intro c O s m x A F Q E h
  rw [arm_eval_Dict, prs_shape]
  refine wpAny_bind (wpAny_standAt ?_)
  have hl := k.length
  have hlB := kB.length
  rw [List.length_append, hX] at hl
  have pk := k.pk O p
  have pkB := kB.pk O p
  have hm : prs (X ++ z :: B) p (c.env sc) = prs X p (c.env sc) ++ (eval z.1 (c.env sc), do let x ← eval z.2 (c.env sc); standAt p; pure x) :: prs B p (c.env sc) := by unfold prs; rw [List.map_append]; rfl
  have hm2 : prs (X ++ [z]) p (c.env sc) = prs X p (c.env sc) ++ [(eval z.1 (c.env sc), do let x ← eval z.2 (c.env sc); standAt p; pure x)] := by unfold prs; rw [List.map_append]; rfl
  rw [hm2] at pk
  rw [hm]
  refine wpAny_display (by rw [List.length_map, hX]) (by rw [List.length_map]; omega) ?_
  refine sub_long O pk (by rw [List.length_append, List.length_map, hX, List.length_singleton]; decide) (by rw [← hl, List.length_singleton]; decide) A F fun q h' t' x' A' e' hq => ?_
  rw [if_neg (by cases B with | nil => exact absurd rfl h0 | cons _ _ => exact List.cons_ne_nil _ _)]
  refine sub_short O (s := { s with heap := h', toks := t' }) pkB (by rw [List.length_map]; exact hB) A' (F.mono e') fun q2 h2 t2 x2 A2 e2 hq2 E' => ?_
  have hq' := e2.at hq
  have a1 : (H ++ [.sdict (mergedV [] l)] ++ [.sdict (mergedV [] lB)] : Hp)[H.length]? = some (.sdict (mergedV [] l)) := by
    rw [List.append_assoc, List.getElem?_append_right (Nat.le_refl _), Nat.sub_self]; rfl
  rw [List.length_append] at hq2
  have a2 : (H ++ [.sdict (mergedV [] l)] ++ [.sdict (mergedV [] lB)] : Hp)[H.length + 1]? = some (.sdict (mergedV [] lB)) := by
    rw [List.append_assoc, List.getElem?_append_right (Nat.le_add_right _ _), Nat.add_sub_cancel_left]; rfl
  obtain ⟨us, d1, k1, lo1⟩ := A2.dict a1 hq'
  obtain ⟨us2, d2, k2, lo2⟩ := A2.dict a2 hq2
  have hne2 : us ≠ [] := fun z => hne (List.length_eq_zero_iff.mp (by rw [k1.length, z]; rfl))
  have hab : q.1 ≠ q2.1 := ownAll_apart (A2.ok.own ▸ A2.ok.nd) a1 hq' a2 hq2 (by show H.length ≠ H.length + 1; omega) (.head _) (.head _)
  have len1 : (mergedV [] l).length ≤ l.length := by
    have key : ∀ (l acc : List (Str × AV)), (mergedV acc l).length ≤ acc.length + l.length := by
      intro l
      induction l with
      | nil => intro acc; exact Nat.le_refl _
      | cons f l ih =>
        intro acc
        show (mergedV (storedV acc f.1 f.2) l).length ≤ _
        have h1 := ih (storedV acc f.1 f.2)
        have h2 := storedV_len acc f.1 f.2
        simp only [List.length_cons]
        omega
    simpa using key l []
  have len2 : (mergedV [] lB).length ≤ lB.length := by
    have key : ∀ (l acc : List (Str × AV)), (mergedV acc l).length ≤ acc.length + l.length := by
      intro l
      induction l with
      | nil => intro acc; exact Nat.le_refl _
      | cons f l ih =>
        intro acc
        show (mergedV (storedV acc f.1 f.2) l).length ≤ _
        have h1 := ih (storedV acc f.1 f.2)
        have h2 := storedV_len acc f.1 f.2
        simp only [List.length_cons]
        omega
    simpa using key lB []
  refine wpAny_mergeMapping (s := { s with heap := h2, toks := t2 }) hab lo2 d1 d2 hne2 (fun h3 d3 hs3 => ?_) ?_
  · obtain ⟨x3, A3, e3, ad3⟩ := A2.dset a1 hq' hs3 d3 (l' := mergedV (mergedV [] l) (mergedV [] lB)) fun w ew => KvR.merged (KvR.monoV ew.toS.toV k1) (KvR.monoV ew.toS.toV k2)
    have hH : ((H ++ [.sdict (mergedV [] l)] ++ [.sdict (mergedV [] lB)] : Hp).set H.length (.sdict (mergedV (mergedV [] l) (mergedV [] lB)))) = H ++ [.sdict (mergedV (mergedV [] l) (mergedV [] lB)), .sdict (mergedV [] lB)] := by
      rw [List.append_assoc, List.set_append_right _ _ (Nat.le_refl _), Nat.sub_self]; rfl
    rw [hH] at A3
    exact h _ h3 t2 x3 A3 ((e'.trans e2).trans e3) (.obj ((e2.trans e3).at hq))
  · rw [← k1.length, ← k2.length, sizeLine_eq]
    have e1 : B.length = lB.length := hlB
    simp only [List.length_singleton] at hl
    omega
theorem strs_val {K : KP} {x : LW} {l us : List (Str × Value)} (r : KvR K x (l.map fun z => (z.1, AV.val z.2)) us) : us = l := by
  induction l generalizing us with
  | nil => cases us with | nil => rfl | cons _ _ => exact r.elim
  | cons f l ih =>
    cases us with
    | nil => exact r.elim
    | cons g us =>
      obtain ⟨fk, fv⟩ := f
      obtain ⟨gk, gv⟩ := g
      obtain ⟨a, b, c⟩ := r
      have a2 : fk = gk := a
      have b2 : VR K x (.val fv) gv := b
      cases b2
      rw [ih c, a2]
theorem Ev.freeze {l : List (Str × Value)} (h1 : Ev W b d sc e fr H (.obj H.length) (H ++ [.sdict (l.map fun z => (z.1, AV.val z.2))])) : Ev W b d sc e fr H (.sd l) H := by
  intro c O s m x A F Q E h
  refine h1 c O s m x A F Q E fun u h' t' x' A' e' r' => ?_
  obtain ⟨_, hq, rfl⟩ := VR.o r'
  rename_i q
  obtain ⟨o, us, lo, m1, hd, hv⟩ := A'.ok.objs _ _ q atLast hq
  have hus := strs_val hv
  subst hus
  obtain ⟨A2, ho⟩ := A'.relay (H₂ := H) (σ := fun j => j) (fun i j _ _ e => e) fun j O₂ hj => ⟨O₂, by rw [List.getElem?_append_left (List.getElem?_eq_some_iff.mp hj).1]; exact hj, by cases O₂ <;> trivial, fun p r => by
    have ho : ∀ a ∈ (x'.re H fun j => j).own, a ∈ x'.own := by
      intro a ha
      obtain ⟨k, O₂, p, e1, e2, e3⟩ := ownAll_of ha
      have hk := (List.getElem?_eq_some_iff.mp e1).1
      have h3 : (H ++ [.sdict (us.map fun z => (z.1, AV.val z.2))] : Hp)[k]? = some O₂ := by rw [List.getElem?_append_left hk]; exact e1
      have hl : k < x'.ad.length := by rw [A'.ok.len, List.length_append]; omega
      have h4 : x'.ad[k]? = some x'.ad[k] := List.getElem?_eq_getElem hl
      have h5 := LW.re_at (x := x') (H₂ := H) (σ := fun j => j) hk h4
      have e9 : some p = some _ := e2.symm.trans h5
      cases e9
      exact A'.owned h3 h4 e3
    exact r.cut (Cut.re (fun k hk => ⟨hk, rfl⟩) ho) (A.ok.bd hj) (fun _ _ _ h => h)⟩
  have hoff : q.1 ∉ (x'.re H fun j => j).own := by
    intro ha
    obtain ⟨k, O₂, p, e1, e2, e3⟩ := ownAll_of ha
    have hk := (List.getElem?_eq_some_iff.mp e1).1
    have h3 : (H ++ [.sdict (us.map fun z => (z.1, AV.val z.2))] : Hp)[k]? = some O₂ := by rw [List.getElem?_append_left hk]; exact e1
    have hl : k < x'.ad.length := by rw [A'.ok.len, List.length_append]; omega
    have h4 : x'.ad[k]? = some x'.ad[k] := List.getElem?_eq_getElem hl
    have h5 := LW.re_at (x := x') (H₂ := H) (σ := fun j => j) hk h4
    have e9 : some p = some _ := e2.symm.trans h5
    cases e9
    exact ownAll_apart (A'.ok.own ▸ A'.ok.nd) h3 h4 atLast hq (Nat.ne_of_lt hk) e3 (.head _) rfl
  refine h _ h' t' _ A2 (e'.re (fun k p hp => ⟨by rw [← A.ok.len]; exact (List.getElem?_eq_some_iff.mp hp).1, rfl⟩) ho) (.sd m1 hoff lo ?_ hd)
  obtain ⟨es, ep, ⟨c1, _⟩, c2, _⟩ := hd
  unfold fz
  rw [c1, c2]
  rfl
theorem Ex.forDict {y : Str} {yp : Pos} {body : List PySem.Stmt} {l : List (Str × Value)} (h1 : Ev W true d sc e fr H (.sd l) H₁) (w : FT W true d sc y body (l.map fun z => .str z.1) fr H₁ fl fr' H₂) (hy : sc.names.lookup y = some .local)
    (hs : ∀ env x, foldedSetIterable e env x = pure x) : Ex W true d sc (.For (.Name y yp) e body [] p) fr H fl fr' H₂ := by
  intro c O s m x A F Q E h
  refine wpAny_For (h1 c O s m x A F _ _ fun u h' t' x' A' e' r' => ?_) (hs _)
  obtain ⟨_, _, m1, m2, lo, hz, hd, rfl⟩ := VR.d r'
  rename_i o a
  have hD : h'.DictOf (PySem.strKind W.prog W.w) a l := Heap.dictOf_iff.mpr ⟨o, A'.N.get m1, hd⟩
  obtain ⟨es, ep, hx, hdat, hko, hpp, hnd⟩ := hd
  have hAt : ∀ {g : Heap}, g.get? a = some o → g.DictAt (PySem.strKind W.prog W.w) a l ep := fun hg => ⟨o, es, hg, hx, hdat, hko, hpp, hnd⟩
  refine wpAny_pyIter_dict (knd := PySem.strKind W.prog W.w) (s := { s with heap := h', toks := t' }) lo (hAt (A'.N.get m1)) ?_
  have fk := fresh_key A'
  have ex := LW.more_ext (x := x') (o := { cls := .type "dict_keyiterator", data := .fields #[.ref a, .int 0 0, .int l.length 0, .int ep 0] }) fk
  refine for_core (c := c) (G := fun i o => o.cls = .type "dict_keyiterator" ∧ o.data = .fields #[.ref a, .int (i : Nat) 0, .int l.length 0, .int ep 0]) (x := x'.more h'.objs.size { cls := .type "dict_keyiterator", data := .fields #[.ref a, .int 0 0, .int l.length 0, .int ep 0] }) O hy ?_ ?_ ?_ (A'.more rfl) ((F.mono e').mono ex) (.head _) (LW.more_off A'.ok fk) ⟨rfl, rfl⟩ w
    fun f m2 h2 t2 x2 A2 F2 back r2 => h f m2 h2 t2 x2 A2 F2 (back x (e'.trans ex) fun q => fk (e'.keys _ q)) r2
  · rintro i o ⟨hc, hd⟩
    unfold fz
    rw [hc, hd]
    rfl
  · rintro i v hi s' x'' o2 eS ⟨hc, hd⟩ hled ho Q E k
    have m3 := eS.led _ (List.mem_cons_of_mem _ m1) (LW.more_ext fk |>.off m1 m2) hz
    rw [List.getElem?_map] at hi
    cases hl : l[i]? with
    | none => rw [hl] at hi; cases hi
    | some kv =>
    rw [hl] at hi
    cases hi
    refine wpAny_pyNext_dict_item (knd := PySem.strKind W.prog W.w) (k := kv.1) (v := kv.2) ⟨o2, ho, hc, hd⟩ (hAt (hled _ m3)) hl fun key h3 hkey hit hsb => ?_
    obtain ⟨o', ho', hc', hd'⟩ := hit
    obtain ⟨tk, rfl⟩ : ∃ tk, key = .str kv.1 tk := by
      have : (PySem.strKind W.prog W.w).is kv.1 key = true := hkey
      simp only [PySem.strKind, Value.isStrOf] at this
      cases key with
      | str s t => exact ⟨t, by rw [beq_iff_eq.mp this]⟩
      | _ => cases this
    exact k h3 s'.toks _ o' hsb ho' ⟨hc', hd'⟩ fun x3 e3 => .str _ _
  · rintro s' x'' o2 eS ⟨hc, hd⟩ hled ho Q E k
    have m3 := eS.led _ (List.mem_cons_of_mem _ m1) (LW.more_ext fk |>.off m1 m2) hz
    rw [List.length_map] at hd
    exact wpAny_pyNext_dict_end (knd := PySem.strKind W.prog W.w) (O.hh rfl) ⟨o2, ho, hc, hd⟩ (hAt (hled _ m3)) (by simp) k
theorem Ev.ditem {i : PySem.Expr} {l : List (Str × Value)} {n : Str} {u : Value} (h1 : Ev W b d sc e fr H (.sd l) H₁) (h2 : Ev W b d sc i fr H₁ (.str n) H₂) (hm : valueAt l n = some u)
    (hs : ∀ a n t, subscripted i false (.ref a) (.str n t) = operate [.ref a, .str n t] (getItem (.ref a) (.str n t))) : Ev W b d sc (.Subscript e i p) fr H (.val u) H₂ := by
  intro c O s m x A F Q E h
  refine Subscript_ (h1 c O s m x A F _ _ fun u' h' t' x' A' e' r' => ?_)
  refine h2 c O _ m x' A' (F.mono e') _ _ fun u2 h2' t2 x2 A2 e2 r2 => ?_
  obtain ⟨tk, rfl⟩ := VR.s r2
  obtain ⟨_, _, m1, m2, lo, hz, hd, rfl⟩ := VR.d r'
  have m3 := e2.led _ m1 m2
  exact kdt_tail (s := { s with heap := h2', toks := t2 }) (knd := PySem.strKind W.prog W.w) A2.N m3 hd (kdt_getItem (knd := PySem.strKind W.prog W.w) A2.N m3 hd (strKind_is _ _ _ _) hm (h u h2' (t2 + 1) x2 A2 (e'.trans e2) (.val u))) (hs _ _ _)
theorem Ex.setS {o i : PySem.Expr} {ip : Pos} {k : Nat} {l l' : List (Str × AV)} {n : Str} (h1 : Ev W b d sc e fr H v H₁) (h2 : Ev W b d sc o fr H₁ (.obj k) H₂) (h3 : Ev W b d sc i fr H₂ (.str n) H₃) (hk : H₃[k]? = some (.sdict l)) (hl : l.length ≤ 1000) (hst : storedV l n v = l')
    (hs : ∀ env, env.scope = sc → swapsWith e (some (.Subscript o i ip)) p.line env = pure false) :
    Ex W b d sc (.Assign [.Subscript o i ip] e p) fr H .next fr (H₃.set k (.sdict l')) := by
  subst hst
  intro c O s m x A F Q E h
  refine wpAny_Assign_Subscript (h1 c O s m x A F _ _ fun u h' t' x' A' e' r' => ?_) (hs _ rfl)
  refine h2 c O _ m x' A' (F.mono e') _ _ fun u2 h2' t2 x2 A2 e2 r2 => ?_
  refine h3 c O _ m x2 A2 (F.mono (e'.trans e2)) _ _ fun u3 h3' t3 x3 A3 e3 r3 => ?_
  obtain ⟨_, hq, rfl⟩ := VR.o r2
  first | obtain rfl := VR.v r3 | obtain ⟨_, rfl⟩ := VR.i r3 | obtain rfl := VR.t r3 | obtain rfl := VR.n r3 | obtain ⟨_, rfl⟩ := VR.s r3 | cases r3
  obtain ⟨us, d1, k1, lo⟩ := A3.dict hk (e3.at hq)
  refine wpAny_setItem_pairs (s := { s with heap := h3', toks := t3 }) (knd := PySem.strKind W.prog W.w) (strKind_is _ _ _ _) d1 (fun h4 d4 hs4 => ?_) (by rw [← k1.length, sizeLine_eq]; omega)
  obtain ⟨x4, A4, e4, _⟩ := A3.dset hk (e3.at hq) hs4 d4 (l' := storedV l n v) fun z ez => KvR.stored n ((r'.mono (e2.trans e3)).mono ez) (KvR.monoV ez.toS.toV k1)
  exact h .next m h4 _ x4 A4 (F.mono (((e'.trans e2).trans e3).trans e4)) (((e'.trans e2).trans e3).trans e4) trivial
end
end
section
open PySem PySem.W PyProof.Rows PySem.Calls PySem.Spec
section
variable {W : Wd} {b : Bool} {d : Nat} {sc : Scope} {fr fr' : Fr2} {H H₁ H₂ H₃ : Hp} {v v' : AV} {e : PySem.Expr} {p : Pos} {fl : Fl}
theorem Ev.weak (h1 : Ev W b d sc e fr H v H₁) : Ev W b d sc e fr H .any H₁ := by
  intro c O s m x A F Q E h
  exact h1 c O s m x A F Q E fun u h' t' x' A' e' r' => h u h' t' x' A' e' (.any u)
theorem Ev.dictAny : Ev W b d sc (.Dict [] [] p) fr H .any H := by
  intro c O s m x A F Q E h
  refine newDict_K A.F A.N O.T.nolimit fun a h' o F' N' hn lo _ _ _ _ => ?_
  have hk : a ∉ x.led.map (·.1) := fun q => by
    obtain ⟨r, hr, e⟩ := List.mem_map.mp q
    have := hn r hr
    rw [e] at this
    exact Nat.lt_irrefl _ this
  have ex := LW.more_ext (x := x) (o := o) hk
  refine h (.ref a) h' s.toks (x.more a o) ⟨F', N', ?_, A.ok.own, A.ok.nd, A.ok.len, fun k O' q h1 h2 => (A.ok.objs k O' q h1 h2).mono ex fun _ _ _ hm => .tail _ hm⟩ ex (.any _)
  show ((_ :: x.led).map (·.1)).Nodup
  rw [List.map_cons, List.nodup_cons]
  exact ⟨hk, A.ok.keys⟩
theorem Ex.setAttrE {o : PySem.Expr} {n : Str} {ap : Pos} {k : Nat} {C : Addr} {fs fs' : List (Str × AV)} (h1 : Ev W b d sc e fr H v H₁) (h2 : Ev W b d sc o fr H₁ (.obj k) H₂) (hk : H₂[k]? = some (.inst C fs)) (fp : FPut fs n v fs')
    (nd : (fs'.map (·.1)).Nodup) (hl : fs'.length ≤ 1000) (ok : storeOkK W.K C n = true) (hs : ∀ env, env.scope = sc → swapsWith e (some (.Attribute o n ap)) p.line env = pure false) (hq : H₂.set k (.inst C fs') = H₃) :
    Ex W b d sc (.Assign [.Attribute o n ap] e p) fr H .next fr H₃ := hq ▸ Ex.setAttr h1 h2 hk fp nd hl ok hs
theorem Ev.callCls {f : Str} {np : Pos} {C fI : Addr} {es : List PySem.Expr} {vs : List AV} (h0 : Ev W b (d + 1) sc (.Name f np) fr H (.val (.ref C)) H) (h1 : Evs W b (d + 1) sc (e :: es) fr H vs H₁) (hk : keepIn W.K (.ref C) = true)
    (hst : ∀ env, starEach (e :: es) env = (false, eval e env) :: starEach es env) (hp : ∀ pos env, (backTo pos (starEach es env)).any (·.1) = false)
    (hm : makesIn W.K C = true) (hi : findIn W.K (.ref C) "__init__" = some (some (.ref fI))) (hf : isFn W.K (.ref fI) = true)
    (h2 : Cl W b d fI (.obj H₁.length :: vs) (H₁ ++ [.inst C []]) .none H₂) : Ev W b (d + 1) sc (.Call (.Name f np) (e :: es) [] p) fr H (.obj H₁.length) H₂ := by
  intro c O s m x A F Q E h
  refine wpAny_Call_ofName (h0 c O s m x A F _ _ fun u h' t' x' A' e' r' => ?_)
  first | obtain rfl := VR.v r' | obtain ⟨_, rfl⟩ := VR.i r' | obtain rfl := VR.t r' | obtain rfl := VR.n r' | obtain ⟨_, rfl⟩ := VR.s r' | cases r'
  refine callWith_K (K := W.K) (h₀ := c.h₀) O.X hk ?_ (hst _) (hp _ _)
  refine h1 c O _ m x' A' (F.mono e') _ _ _ fun us h2' t2 x2 A2 e2 r2 => ⟨O.X.keeps A2.F.keep, ?_⟩
  refine call_cls (s := { s with heap := h2', toks := t2 }) A2.F O.X A2.N hm hi hf fun I D h3 F3 N3 hlt hDI => ?_
  let c1 : Cx := { c with A := c.A.under (.builtin "type.__call__" ⟨.ref C :: us, []⟩) }
  have O1 : CxOk W b d sc c1 := ⟨O.B, O.hA, O.hk, O.XB, O.TB, (by have := O.dep; show c.A.depth + 1 + d < 1000; omega), (by have := O.un; show c.A.units + 1 + 4 * d + 100 < 9900; omega), O.hh, O.lc, (by have := O.d1; show 302 ≤ c.A.depth + 1; omega), (by have := O.d1; intro (q : c.A.depth + 1 = 302); omega), O.lc2⟩
  have offD : D ∉ x2.led.map (·.1) := fun q => by
    obtain ⟨r, hr, e⟩ := List.mem_map.mp q
    have := hlt r hr
    rw [e] at this
    exact Nat.lt_irrefl _ this
  have offI : I ∉ x2.led.map (·.1) := fun q => by
    obtain ⟨r, hr, e⟩ := List.mem_map.mp q
    have h1 := hlt r hr
    have h2 := Nat.lt_trans h1 hDI
    rw [e] at h2
    exact Nat.lt_irrefl _ h2
  have hne : I ≠ D := Nat.ne_of_gt hDI
  have hn : ∀ a ∈ [((I : Addr), instObj C D), (D, dictOf [] 0)].map (·.1), a ∉ x2.led.map (·.1) := fun a ha => by
    cases ha with
    | head => exact offI
    | tail _ ha =>
      cases ha with
      | head => exact offD
      | tail _ ha => cases ha
  have ho : ∀ a ∈ ownOf (I, D) (.inst C []), a ∈ [((I : Addr), instObj C D), (D, dictOf [] 0)].map (·.1) := fun a ha => ha
  have A3 : At W c m (H₁ ++ [.inst C []]) h3 (x2.grow [(I, instObj C D), (D, dictOf [] 0)] (I, D) (.inst C [])) := by
    refine A2.grow F3 N3 hn ?_ ho ?_ ⟨[], 0, .head _, .tail _ (.head _), trivial⟩
    · simpa using hne
    · simpa [ownOf] using hne
  have ex := LW.grow_ext (x := x2) (q := (I, D)) (O := .inst C []) hn ho
  have hq := LW.grow_at (ps := [((I : Addr), instObj C D), (D, dictOf [] 0)]) (q := (I, D)) (O := .inst C []) A2.ok
  have A4 : At W c1 m (H₁ ++ [.inst C []]) h3 _ := ⟨A3.F, A3.N, A3.ok⟩
  refine h2 sc c1 O1 { s with heap := h3, toks := t2 } m _ A4 (.ref I :: us) (.cons (.obj hq) (r2.mono ex)) _ fun u h5 t5 x5 A5 e5 r5 => ?_
  first | obtain rfl := VR.v r5 | obtain ⟨_, rfl⟩ := VR.i r5 | obtain rfl := VR.t r5 | obtain rfl := VR.n r5 | obtain ⟨_, rfl⟩ := VR.s r5 | cases r5
  exact ⟨rfl, h (.ref I) h5 t5 x5 ⟨A5.F, A5.N, A5.ok⟩ ((e'.trans e2).trans (ex.trans e5)) (.obj (e5.at hq))⟩
theorem Ev.callClsFn {f n : Str} {ap np : Pos} {C fa : Addr} {es : List PySem.Expr} {vs : List AV} (h0 : Ev W b (d + 1) sc (.Name f np) fr H (.val (.ref C)) H) (hg : specialIn W.K (.ref C) "__getattribute__" = some (some (.builtin "type.__getattribute__"))) (hr : readsIn W.K C (.type "type") = true)
    (hfd : findCls W.K (.ref C) (.type "type") n = some (.val (.ref fa))) (hk : keepIn W.K (.ref fa) = true)
    (h1 : Evs W b (d + 1) sc (e :: es) fr H vs H₁) (hst : ∀ env, starEach (e :: es) env = (false, eval e env) :: starEach es env) (hp : ∀ pos env, (backTo pos (starEach es env)).any (·.1) = false)
    (hc : ∀ env, ∃ pl, eval (.Call (.Attribute (.Name f np) n ap) (e :: es) [] p) env = (do
      let ov ← eval (.Name f np) env
      standAt ap.atName
      let (f, first) ← holding [ov] (getMethod ov n pl)
      callWith p f first (backTo p (starEach (e :: es) env)) (backToKw p (keywordEach [] env))))
    (h2 : Cl W b (d + 1) fa vs H₁ v H₂) : Ev W b (d + 1) sc (.Call (.Attribute (.Name f np) n ap) (e :: es) [] p) fr H v H₂ := by
  intro c O s m x A F Q E h
  obtain ⟨pl, hev⟩ := hc (c.env sc)
  refine methodCall_KW (pl := pl) (h0 c O s m x A F _ _ fun u h' t' x' A' e' r' => ?_) hev
  first | obtain rfl := VR.v r' | obtain ⟨_, rfl⟩ := VR.i r' | obtain rfl := VR.t r' | obtain rfl := VR.n r' | obtain ⟨_, rfl⟩ := VR.s r' | cases r'
  refine method_cls (s := { s with heap := h', toks := t' }) (O.X.keeps A'.F.keep) hg (cls_value (O.X.keeps A'.F.keep) hr hfd rfl ?_)
  refine callWith_K (K := W.K) (h₀ := c.h₀) O.X hk ?_ (hst _) (hp _ _)
  refine h1 c O { s with heap := h', toks := t' + 1 } m x' A' (F.mono e') _ _ _ fun us h2' t2 x2 A2 e2 r2 => ⟨O.X.keeps A2.F.keep, ?_⟩
  refine wpAny_call ?_
  exact h2 sc c O _ m x2 A2 us r2 _ fun u h3 t3 x3 A3 e3 r3 => h _ _ _ x3 A3 ((e'.trans e2).trans e3) r3
noncomputable def putF : List (Str × AV) → Str → AV → List (Str × AV)
  | [], n, v => [(n, v)]
  | f :: fs, n, v => if f.1 = n then (n, v) :: fs else f :: putF fs n v
theorem putF_put (n : Str) (v : AV) : ∀ fs : List (Str × AV), FPut fs n v (putF fs n v)
  | [] => .new
  | (k, u) :: fs => by
    unfold putF
    by_cases h : k = n
    · subst h
      rw [if_pos rfl]; exact .z
    · rw [if_neg h]; exact .s (putF_put n v fs)
structure FB (fs : List (Str × AV)) (N : Nat) : Prop where
  nd : (fs.map (·.1)).Nodup
  len : fs.length ≤ N
theorem putF_keys (n : Str) (v : AV) : ∀ fs : List (Str × AV), ∀ k ∈ (putF fs n v).map (·.1), k = n ∨ k ∈ fs.map (·.1)
  | [], k, h => by simp [putF] at h; exact .inl h
  | f :: fs, k, h => by
    unfold putF at h
    by_cases hf : f.1 = n
    · rw [if_pos hf] at h
      rcases List.mem_cons.mp h with h | h
      · exact .inl h
      · exact .inr (.tail _ h)
    · rw [if_neg hf] at h
      rcases List.mem_cons.mp h with h | h
      · exact .inr (h ▸ .head _)
      · exact (putF_keys n v fs k h).imp id (.tail _)
theorem FB.put {n : Str} {v : AV} : ∀ {fs : List (Str × AV)} {N : Nat}, FB fs N → FB (putF fs n v) (N + 1)
  | [], N, h => ⟨by simp [putF], by simp [putF]⟩
  | f :: fs, N, h => by
    have h1 := h.nd
    have h2 := h.len
    rw [List.map_cons, List.nodup_cons] at h1
    rw [List.length_cons] at h2
    unfold putF
    by_cases hf : f.1 = n
    · rw [if_pos hf]
      refine ⟨?_, by rw [List.length_cons]; omega⟩
      rw [List.map_cons, List.nodup_cons]
      exact ⟨hf ▸ h1.1, h1.2⟩
    · rw [if_neg hf]
      have ih := FB.put (n := n) (v := v) (fs := fs) (N := N - 1) ⟨h1.2, by omega⟩
      refine ⟨?_, by have := ih.len; rw [List.length_cons]; omega⟩
      rw [List.map_cons, List.nodup_cons]
      exact ⟨fun q => (putF_keys n v fs _ q).elim hf h1.1, ih.nd⟩
end
end
section
open PySem PySem.W PyProof.Rows PySem.Calls PySem.Spec
structure Mc where
  p : Int
  cp : Int
  e : Int
  b : Int
  b0 : Int
  steps : Int
  max : Int
  halted : Bool
  failed : Bool
  hb : Int
  bb : Int
  xs : List AV
  hp : List AV
  stk : List AV
  trl : List AV
  kc : Nat
  ke : Nat
  kt : Nat
@[reducible] noncomputable def Mc.w_p (m : Mc) (v : Int) : Mc := { m with p := v }
@[reducible] noncomputable def Mc.w_cp (m : Mc) (v : Int) : Mc := { m with cp := v }
@[reducible] noncomputable def Mc.w_e (m : Mc) (v : Int) : Mc := { m with e := v }
@[reducible] noncomputable def Mc.w_b (m : Mc) (v : Int) : Mc := { m with b := v }
@[reducible] noncomputable def Mc.w_b0 (m : Mc) (v : Int) : Mc := { m with b0 := v }
@[reducible] noncomputable def Mc.w_steps (m : Mc) (v : Int) : Mc := { m with steps := v }
@[reducible] noncomputable def Mc.w_max (m : Mc) (v : Int) : Mc := { m with max := v }
@[reducible] noncomputable def Mc.w_halted (m : Mc) (v : Bool) : Mc := { m with halted := v }
@[reducible] noncomputable def Mc.w_failed (m : Mc) (v : Bool) : Mc := { m with failed := v }
@[reducible] noncomputable def Mc.w_hb (m : Mc) (v : Int) : Mc := { m with hb := v }
@[reducible] noncomputable def Mc.w_bb (m : Mc) (v : Int) : Mc := { m with bb := v }
@[reducible] noncomputable def Mc.w_xs (m : Mc) (v : List AV) : Mc := { m with xs := v }
@[reducible] noncomputable def Mc.w_hp (m : Mc) (v : List AV) : Mc := { m with hp := v }
@[reducible] noncomputable def Mc.w_stk (m : Mc) (v : List AV) : Mc := { m with stk := v }
@[reducible] noncomputable def Mc.w_trl (m : Mc) (v : List AV) : Mc := { m with trl := v }
noncomputable abbrev voidV : AV := .tup [.int 5, .int 0]
noncomputable abbrev emuFs (n : Nat) (m : Mc) : List (Str × AV) := [(Str.ofString "symbols", AV.none), (Str.ofString "code", .obj m.kc), (Str.ofString "max_heap", .int 100000), (Str.ofString "occurs", .bool true), (Str.ofString "max_bits", .int 4096), (Str.ofString "store", .obj (n + 1)), (Str.ofString "x", .obj (n + 2)), (Str.ofString "p", .int m.p), (Str.ofString "cp", .int m.cp), (Str.ofString "e", .int m.e), (Str.ofString "b", .int m.b), (Str.ofString "b0", .int m.b0), (Str.ofString "mode", .str "read"), (Str.ofString "s", .int 0), (Str.ofString "guard", voidV), (Str.ofString "roots", .any), (Str.ofString "bags", .any), (Str.ofString "collect_wanted", .bool false), (Str.ofString "entries", .obj m.ke), (Str.ofString "max_steps", .int m.max), (Str.ofString "table", .obj m.kt), (Str.ofString "steps", .int m.steps), (Str.ofString "halted", .bool m.halted), (Str.ofString "failed", .bool m.failed)]
noncomputable abbrev stoFs (n : Nat) (m : Mc) : List (Str × AV) := [(Str.ofString "symbols", AV.none), (Str.ofString "max_heap", .int 100000), (Str.ofString "heap", .obj (n + 3)), (Str.ofString "stack", .obj (n + 4)), (Str.ofString "trail", .obj (n + 5)), (Str.ofString "hb", .int m.hb), (Str.ofString "bb", .int m.bb)]
noncomputable def emuNs : List Str := [Str.ofString "symbols", Str.ofString "code", Str.ofString "max_heap", Str.ofString "occurs", Str.ofString "max_bits", Str.ofString "store", Str.ofString "x", Str.ofString "p", Str.ofString "cp", Str.ofString "e", Str.ofString "b", Str.ofString "b0", Str.ofString "mode", Str.ofString "s", Str.ofString "guard", Str.ofString "roots", Str.ofString "bags", Str.ofString "collect_wanted", Str.ofString "entries", Str.ofString "max_steps", Str.ofString "table", Str.ofString "steps", Str.ofString "halted", Str.ofString "failed"]
noncomputable def stoNs : List Str := [Str.ofString "symbols", Str.ofString "max_heap", Str.ofString "heap", Str.ofString "stack", Str.ofString "trail", Str.ofString "hb", Str.ofString "bb"]
theorem emuNs_nd : emuNs.Nodup := by decide +kernel
theorem stoNs_nd : stoNs.Nodup := by decide +kernel
theorem emu_nd (n : Nat) (m : Mc) : ((emuFs n m).map (·.1)).Nodup := emuNs_nd
theorem sto_nd (n : Nat) (m : Mc) : ((stoFs n m).map (·.1)).Nodup := stoNs_nd
noncomputable abbrev MH (H1 : Hp) (m : Mc) (H2 : Hp) : Hp := H1 ++ (.inst c_Emulator (emuFs H1.length m) :: .inst c_Store (stoFs H1.length m) :: .list m.xs :: .list m.hp :: .list m.stk :: .list m.trl :: H2)
theorem at_app {α : Type} (l r : List α) (i : Nat) : (l ++ r)[l.length + i]? = r[i]? := by
  rw [List.getElem?_append_right (Nat.le_add_right _ _), Nat.add_sub_cancel_left]
theorem set_app {α : Type} (l r : List α) (i : Nat) (x : α) : (l ++ r).set (l.length + i) x = l ++ r.set i x := by
  rw [List.set_append_right _ _ (Nat.le_add_right _ _), Nat.add_sub_cancel_left]
section
variable {H1 H2 : Hp} {m : Mc}
theorem MH0 : (MH H1 m H2)[H1.length]? = some (.inst c_Emulator (emuFs H1.length m)) := at_app _ _ 0
theorem MH1 : (MH H1 m H2)[H1.length + 1]? = some (.inst c_Store (stoFs H1.length m)) := at_app _ _ 1
theorem MH2 : (MH H1 m H2)[H1.length + 2]? = some (.list m.xs) := at_app _ _ 2
theorem MH3 : (MH H1 m H2)[H1.length + 3]? = some (.list m.hp) := at_app _ _ 3
theorem MH4 : (MH H1 m H2)[H1.length + 4]? = some (.list m.stk) := at_app _ _ 4
theorem MH5 : (MH H1 m H2)[H1.length + 5]? = some (.list m.trl) := at_app _ _ 5
theorem MHc {k : Nat} {O : MO} (h : H1[k]? = some O) : (MH H1 m H2)[k]? = some O := by
  rw [List.getElem?_append_left (List.getElem?_eq_some_iff.mp h).1]; exact h
theorem MHs2 {l : List AV} : (MH H1 m H2).set (H1.length + 2) (.list l) = MH H1 (m.w_xs l) H2 := set_app _ _ 2 _
theorem MHs3 {l : List AV} : (MH H1 m H2).set (H1.length + 3) (.list l) = MH H1 (m.w_hp l) H2 := set_app _ _ 3 _
theorem MHs4 {l : List AV} : (MH H1 m H2).set (H1.length + 4) (.list l) = MH H1 (m.w_stk l) H2 := set_app _ _ 4 _
theorem MHs5 {l : List AV} : (MH H1 m H2).set (H1.length + 5) (.list l) = MH H1 (m.w_trl l) H2 := set_app _ _ 5 _
end
structure St0 where
  prog : Program
  w : World
  pq : Program
  loose : List Str
  mean : ExcName → Option Value
  mg : Str → Option Value
  mb : Str → Option Value
noncomputable abbrev St0.W (S : St0) : Wd := ⟨S.prog, S.w, K0 S.w.params, S.pq, S.loose, S.mean, S.mg, S.mb⟩
section
variable {S : St0} {b : Bool} {d : Nat} {sc : Scope} {fr fr' fr₁ fr₂ : Fr2} {H H' H₁ H₂ H₃ : Hp} {v v' : AV} {e o i : PySem.Expr} {p ap ip : Pos} {fl : Fl} {H1 H2 : Hp} {m : Mc}
theorem Ts.eq {W : Wd} {t t' : Bool} (h : Ts W b d sc e fr H t H') (q : t = t') : Ts W b d sc e fr H t' H' := q ▸ h
theorem Ev.eq {W : Wd} (h : Ev W b d sc e fr H v H') (q : v = v') : Ev W b d sc e fr H v' H' := q ▸ h
theorem Cl.eq {W : Wd} {f : Addr} {as : List AV} {r r' : AV} (h : Cl W b d f as H r H₁) (q : r = r') (q2 : H₁ = H₂) : Cl W b d f as H r' H₂ := q ▸ q2 ▸ h
theorem put_p {k : Nat} {v : Int} : FPut (emuFs k m) (Str.ofString "p") (.int v) (emuFs k (m.w_p v)) := (.s (.s (.s (.s (.s (.s (.s .z)))))))
theorem Ex.set_p {v : Int} (h1 : Ev S.W b d sc e fr H (.int v) (MH H1 m H2)) (h2 : Ev S.W b d sc o fr (MH H1 m H2) (.obj (H1.length)) (MH H1 m H2)) (hs : ∀ env, env.scope = sc → swapsWith e (some (.Attribute o (Str.ofString "p") ap)) p.line env = pure false) :
    Ex S.W b d sc (.Assign [.Attribute o (Str.ofString "p") ap] e p) fr H .next fr (MH H1 (m.w_p v) H2) := by
  have := Ex.setAttr h1 h2 MH0 (put_p (v := v)) (emu_nd _ _) (Nat.le_of_ble_eq_true rfl) (by kernel_rfl) hs
  have q : (MH H1 m H2).set (H1.length) (.inst c_Emulator (emuFs H1.length (m.w_p v))) = MH H1 (m.w_p v) H2 := set_app H1 _ 0 _
  rw [q] at this
  exact this
theorem Ex.aug_p {j : Int} (h1 : Ev S.W b d sc o fr (MH H1 m H2) (.obj (H1.length)) (MH H1 m H2)) (h2 : Ev S.W b d sc e fr (MH H1 m H2) (.int j) (MH H1 m H2)) :
    Ex S.W b d sc (.AugAssign (.Attribute o (Str.ofString "p") ap) .Add e p) fr (MH H1 m H2) .next fr (MH H1 (m.w_p (m.p + j)) H2) := by
  have := Ex.augAttr (p := p) (ap := ap) h1 MH0 (n := Str.ofString "p") (i := m.p) (by repeat (first | exact List.mem_cons_self | refine List.mem_cons_of_mem _ ?_)) (emu_nd _ _) (by kernel_rfl) h2 MH0 (put_p (v := m.p + j)) (emu_nd _ _) (Nat.le_of_ble_eq_true rfl) (by kernel_rfl)
  have q : (MH H1 m H2).set (H1.length) (.inst c_Emulator (emuFs H1.length (m.w_p (m.p + j)))) = MH H1 (m.w_p (m.p + j)) H2 := set_app H1 _ 0 _
  rw [q] at this
  exact this
theorem put_cp {k : Nat} {v : Int} : FPut (emuFs k m) (Str.ofString "cp") (.int v) (emuFs k (m.w_cp v)) := (.s (.s (.s (.s (.s (.s (.s (.s .z))))))))
theorem Ex.set_cp {v : Int} (h1 : Ev S.W b d sc e fr H (.int v) (MH H1 m H2)) (h2 : Ev S.W b d sc o fr (MH H1 m H2) (.obj (H1.length)) (MH H1 m H2)) (hs : ∀ env, env.scope = sc → swapsWith e (some (.Attribute o (Str.ofString "cp") ap)) p.line env = pure false) :
    Ex S.W b d sc (.Assign [.Attribute o (Str.ofString "cp") ap] e p) fr H .next fr (MH H1 (m.w_cp v) H2) := by
  have := Ex.setAttr h1 h2 MH0 (put_cp (v := v)) (emu_nd _ _) (Nat.le_of_ble_eq_true rfl) (by kernel_rfl) hs
  have q : (MH H1 m H2).set (H1.length) (.inst c_Emulator (emuFs H1.length (m.w_cp v))) = MH H1 (m.w_cp v) H2 := set_app H1 _ 0 _
  rw [q] at this
  exact this
theorem put_e {k : Nat} {v : Int} : FPut (emuFs k m) (Str.ofString "e") (.int v) (emuFs k (m.w_e v)) := (.s (.s (.s (.s (.s (.s (.s (.s (.s .z)))))))))
theorem Ex.set_e {v : Int} (h1 : Ev S.W b d sc e fr H (.int v) (MH H1 m H2)) (h2 : Ev S.W b d sc o fr (MH H1 m H2) (.obj (H1.length)) (MH H1 m H2)) (hs : ∀ env, env.scope = sc → swapsWith e (some (.Attribute o (Str.ofString "e") ap)) p.line env = pure false) :
    Ex S.W b d sc (.Assign [.Attribute o (Str.ofString "e") ap] e p) fr H .next fr (MH H1 (m.w_e v) H2) := by
  have := Ex.setAttr h1 h2 MH0 (put_e (v := v)) (emu_nd _ _) (Nat.le_of_ble_eq_true rfl) (by kernel_rfl) hs
  have q : (MH H1 m H2).set (H1.length) (.inst c_Emulator (emuFs H1.length (m.w_e v))) = MH H1 (m.w_e v) H2 := set_app H1 _ 0 _
  rw [q] at this
  exact this
theorem put_b {k : Nat} {v : Int} : FPut (emuFs k m) (Str.ofString "b") (.int v) (emuFs k (m.w_b v)) := (.s (.s (.s (.s (.s (.s (.s (.s (.s (.s .z))))))))))
theorem Ex.set_b {v : Int} (h1 : Ev S.W b d sc e fr H (.int v) (MH H1 m H2)) (h2 : Ev S.W b d sc o fr (MH H1 m H2) (.obj (H1.length)) (MH H1 m H2)) (hs : ∀ env, env.scope = sc → swapsWith e (some (.Attribute o (Str.ofString "b") ap)) p.line env = pure false) :
    Ex S.W b d sc (.Assign [.Attribute o (Str.ofString "b") ap] e p) fr H .next fr (MH H1 (m.w_b v) H2) := by
  have := Ex.setAttr h1 h2 MH0 (put_b (v := v)) (emu_nd _ _) (Nat.le_of_ble_eq_true rfl) (by kernel_rfl) hs
  have q : (MH H1 m H2).set (H1.length) (.inst c_Emulator (emuFs H1.length (m.w_b v))) = MH H1 (m.w_b v) H2 := set_app H1 _ 0 _
  rw [q] at this
  exact this
theorem put_b0 {k : Nat} {v : Int} : FPut (emuFs k m) (Str.ofString "b0") (.int v) (emuFs k (m.w_b0 v)) := (.s (.s (.s (.s (.s (.s (.s (.s (.s (.s (.s .z)))))))))))
theorem Ex.set_b0 {v : Int} (h1 : Ev S.W b d sc e fr H (.int v) (MH H1 m H2)) (h2 : Ev S.W b d sc o fr (MH H1 m H2) (.obj (H1.length)) (MH H1 m H2)) (hs : ∀ env, env.scope = sc → swapsWith e (some (.Attribute o (Str.ofString "b0") ap)) p.line env = pure false) :
    Ex S.W b d sc (.Assign [.Attribute o (Str.ofString "b0") ap] e p) fr H .next fr (MH H1 (m.w_b0 v) H2) := by
  have := Ex.setAttr h1 h2 MH0 (put_b0 (v := v)) (emu_nd _ _) (Nat.le_of_ble_eq_true rfl) (by kernel_rfl) hs
  have q : (MH H1 m H2).set (H1.length) (.inst c_Emulator (emuFs H1.length (m.w_b0 v))) = MH H1 (m.w_b0 v) H2 := set_app H1 _ 0 _
  rw [q] at this
  exact this
theorem put_max_steps {k : Nat} {v : Int} : FPut (emuFs k m) (Str.ofString "max_steps") (.int v) (emuFs k (m.w_max v)) := (.s (.s (.s (.s (.s (.s (.s (.s (.s (.s (.s (.s (.s (.s (.s (.s (.s (.s (.s .z)))))))))))))))))))
theorem put_steps {k : Nat} {v : Int} : FPut (emuFs k m) (Str.ofString "steps") (.int v) (emuFs k (m.w_steps v)) := (.s (.s (.s (.s (.s (.s (.s (.s (.s (.s (.s (.s (.s (.s (.s (.s (.s (.s (.s (.s (.s .z)))))))))))))))))))))
theorem Ex.aug_steps {j : Int} (h1 : Ev S.W b d sc o fr (MH H1 m H2) (.obj (H1.length)) (MH H1 m H2)) (h2 : Ev S.W b d sc e fr (MH H1 m H2) (.int j) (MH H1 m H2)) :
    Ex S.W b d sc (.AugAssign (.Attribute o (Str.ofString "steps") ap) .Add e p) fr (MH H1 m H2) .next fr (MH H1 (m.w_steps (m.steps + j)) H2) := by
  have := Ex.augAttr (p := p) (ap := ap) h1 MH0 (n := Str.ofString "steps") (i := m.steps) (by repeat (first | exact List.mem_cons_self | refine List.mem_cons_of_mem _ ?_)) (emu_nd _ _) (by kernel_rfl) h2 MH0 (put_steps (v := m.steps + j)) (emu_nd _ _) (Nat.le_of_ble_eq_true rfl) (by kernel_rfl)
  have q : (MH H1 m H2).set (H1.length) (.inst c_Emulator (emuFs H1.length (m.w_steps (m.steps + j)))) = MH H1 (m.w_steps (m.steps + j)) H2 := set_app H1 _ 0 _
  rw [q] at this
  exact this
theorem put_halted {k : Nat} {v : Bool} : FPut (emuFs k m) (Str.ofString "halted") (.bool v) (emuFs k (m.w_halted v)) := (.s (.s (.s (.s (.s (.s (.s (.s (.s (.s (.s (.s (.s (.s (.s (.s (.s (.s (.s (.s (.s (.s .z))))))))))))))))))))))
theorem Ex.set_halted {v : Bool} (h1 : Ev S.W b d sc e fr H (.bool v) (MH H1 m H2)) (h2 : Ev S.W b d sc o fr (MH H1 m H2) (.obj (H1.length)) (MH H1 m H2)) (hs : ∀ env, env.scope = sc → swapsWith e (some (.Attribute o (Str.ofString "halted") ap)) p.line env = pure false) :
    Ex S.W b d sc (.Assign [.Attribute o (Str.ofString "halted") ap] e p) fr H .next fr (MH H1 (m.w_halted v) H2) := by
  have := Ex.setAttr h1 h2 MH0 (put_halted (v := v)) (emu_nd _ _) (Nat.le_of_ble_eq_true rfl) (by kernel_rfl) hs
  have q : (MH H1 m H2).set (H1.length) (.inst c_Emulator (emuFs H1.length (m.w_halted v))) = MH H1 (m.w_halted v) H2 := set_app H1 _ 0 _
  rw [q] at this
  exact this
theorem put_failed {k : Nat} {v : Bool} : FPut (emuFs k m) (Str.ofString "failed") (.bool v) (emuFs k (m.w_failed v)) := (.s (.s (.s (.s (.s (.s (.s (.s (.s (.s (.s (.s (.s (.s (.s (.s (.s (.s (.s (.s (.s (.s (.s .z)))))))))))))))))))))))
theorem Ex.set_failed {v : Bool} (h1 : Ev S.W b d sc e fr H (.bool v) (MH H1 m H2)) (h2 : Ev S.W b d sc o fr (MH H1 m H2) (.obj (H1.length)) (MH H1 m H2)) (hs : ∀ env, env.scope = sc → swapsWith e (some (.Attribute o (Str.ofString "failed") ap)) p.line env = pure false) :
    Ex S.W b d sc (.Assign [.Attribute o (Str.ofString "failed") ap] e p) fr H .next fr (MH H1 (m.w_failed v) H2) := by
  have := Ex.setAttr h1 h2 MH0 (put_failed (v := v)) (emu_nd _ _) (Nat.le_of_ble_eq_true rfl) (by kernel_rfl) hs
  have q : (MH H1 m H2).set (H1.length) (.inst c_Emulator (emuFs H1.length (m.w_failed v))) = MH H1 (m.w_failed v) H2 := set_app H1 _ 0 _
  rw [q] at this
  exact this
theorem put_hb {k : Nat} {v : Int} : FPut (stoFs k m) (Str.ofString "hb") (.int v) (stoFs k (m.w_hb v)) := (.s (.s (.s (.s (.s .z)))))
theorem Ex.set_hb {v : Int} (h1 : Ev S.W b d sc e fr H (.int v) (MH H1 m H2)) (h2 : Ev S.W b d sc o fr (MH H1 m H2) (.obj (H1.length + 1)) (MH H1 m H2)) (hs : ∀ env, env.scope = sc → swapsWith e (some (.Attribute o (Str.ofString "hb") ap)) p.line env = pure false) :
    Ex S.W b d sc (.Assign [.Attribute o (Str.ofString "hb") ap] e p) fr H .next fr (MH H1 (m.w_hb v) H2) := by
  have := Ex.setAttr h1 h2 MH1 (put_hb (v := v)) (sto_nd _ _) (Nat.le_of_ble_eq_true rfl) (by kernel_rfl) hs
  have q : (MH H1 m H2).set (H1.length + 1) (.inst c_Store (stoFs H1.length (m.w_hb v))) = MH H1 (m.w_hb v) H2 := set_app H1 _ 1 _
  rw [q] at this
  exact this
theorem put_bb {k : Nat} {v : Int} : FPut (stoFs k m) (Str.ofString "bb") (.int v) (stoFs k (m.w_bb v)) := (.s (.s (.s (.s (.s (.s .z))))))
theorem Ex.set_bb {v : Int} (h1 : Ev S.W b d sc e fr H (.int v) (MH H1 m H2)) (h2 : Ev S.W b d sc o fr (MH H1 m H2) (.obj (H1.length + 1)) (MH H1 m H2)) (hs : ∀ env, env.scope = sc → swapsWith e (some (.Attribute o (Str.ofString "bb") ap)) p.line env = pure false) :
    Ex S.W b d sc (.Assign [.Attribute o (Str.ofString "bb") ap] e p) fr H .next fr (MH H1 (m.w_bb v) H2) := by
  have := Ex.setAttr h1 h2 MH1 (put_bb (v := v)) (sto_nd _ _) (Nat.le_of_ble_eq_true rfl) (by kernel_rfl) hs
  have q : (MH H1 m H2).set (H1.length + 1) (.inst c_Store (stoFs H1.length (m.w_bb v))) = MH H1 (m.w_bb v) H2 := set_app H1 _ 1 _
  rw [q] at this
  exact this
theorem g_REF (P : Params) : nsIn (K0 P) mainGlobals (Str.ofString "REF") = some (some (Value.int 0 305)) := by kernel_rfl
theorem ev_REF (hx : sc.names.lookup (Str.ofString "REF") = some .globalImplicit) : Ev S.W b d sc (.Name (Str.ofString "REF") p) fr H (.int 0) H := Ev.ofGlobal (W := S.W) (g_REF S.w.params) (fun _ => .int _ _) hx (by kernel_rfl)
theorem g_SRF (P : Params) : nsIn (K0 P) mainGlobals (Str.ofString "SRF") = some (some (Value.int 1 307)) := by kernel_rfl
theorem ev_SRF (hx : sc.names.lookup (Str.ofString "SRF") = some .globalImplicit) : Ev S.W b d sc (.Name (Str.ofString "SRF") p) fr H (.int 1) H := Ev.ofGlobal (W := S.W) (g_SRF S.w.params) (fun _ => .int _ _) hx (by kernel_rfl)
theorem g_INT (P : Params) : nsIn (K0 P) mainGlobals (Str.ofString "INT") = some (some (Value.int 5 315)) := by kernel_rfl
theorem ev_INT (hx : sc.names.lookup (Str.ofString "INT") = some .globalImplicit) : Ev S.W b d sc (.Name (Str.ofString "INT") p) fr H (.int 5) H := Ev.ofGlobal (W := S.W) (g_INT S.w.params) (fun _ => .int _ _) hx (by kernel_rfl)
theorem g_VOID (P : Params) : nsIn (K0 P) mainGlobals (Str.ofString "VOID") = some (some (Value.ref 95)) := by kernel_rfl
theorem ev_VOID (hx : sc.names.lookup (Str.ofString "VOID") = some .globalImplicit) : Ev S.W b d sc (.Name (Str.ofString "VOID") p) fr H (voidV) H := Ev.ofGlobal (W := S.W) (g_VOID S.w.params) (fun _ => .ktup (a := 95) (its := [Value.int 5 315, Value.int 0 319]) (n := 0) rfl (.cons (.int _ _) (.cons (.int _ _) .nil))) hx (by kernel_rfl)
theorem g_HALT_ADDRESS (P : Params) : nsIn (K0 P) mainGlobals (Str.ofString "HALT_ADDRESS") = some (some (Value.int 1 273)) := by kernel_rfl
theorem ev_HALT_ADDRESS (hx : sc.names.lookup (Str.ofString "HALT_ADDRESS") = some .globalImplicit) : Ev S.W b d sc (.Name (Str.ofString "HALT_ADDRESS") p) fr H (.int 1) H := Ev.ofGlobal (W := S.W) (g_HALT_ADDRESS S.w.params) (fun _ => .int _ _) hx (by kernel_rfl)
theorem g_READ (P : Params) : nsIn (K0 P) mainGlobals (Str.ofString "READ") = some (some (Value.str (Str.ofString "read") 715)) := by kernel_rfl
theorem ev_READ (hx : sc.names.lookup (Str.ofString "READ") = some .globalImplicit) : Ev S.W b d sc (.Name (Str.ofString "READ") p) fr H (.str "read") H := Ev.ofGlobal (W := S.W) (g_READ S.w.params) (fun _ => .str _ _) hx (by kernel_rfl)
theorem g_AT_E (P : Params) : nsIn (K0 P) mainGlobals (Str.ofString "AT_E") = some (some (Value.int 1 719)) := by kernel_rfl
theorem ev_AT_E (hx : sc.names.lookup (Str.ofString "AT_E") = some .globalImplicit) : Ev S.W b d sc (.Name (Str.ofString "AT_E") p) fr H (.int 1) H := Ev.ofGlobal (W := S.W) (g_AT_E S.w.params) (fun _ => .int _ _) hx (by kernel_rfl)
theorem g_AT_CP (P : Params) : nsIn (K0 P) mainGlobals (Str.ofString "AT_CP") = some (some (Value.int 2 721)) := by kernel_rfl
theorem ev_AT_CP (hx : sc.names.lookup (Str.ofString "AT_CP") = some .globalImplicit) : Ev S.W b d sc (.Name (Str.ofString "AT_CP") p) fr H (.int 2) H := Ev.ofGlobal (W := S.W) (g_AT_CP S.w.params) (fun _ => .int _ _) hx (by kernel_rfl)
theorem g_AT_PREVIOUS (P : Params) : nsIn (K0 P) mainGlobals (Str.ofString "AT_PREVIOUS") = some (some (Value.int 3 723)) := by kernel_rfl
theorem ev_AT_PREVIOUS (hx : sc.names.lookup (Str.ofString "AT_PREVIOUS") = some .globalImplicit) : Ev S.W b d sc (.Name (Str.ofString "AT_PREVIOUS") p) fr H (.int 3) H := Ev.ofGlobal (W := S.W) (g_AT_PREVIOUS S.w.params) (fun _ => .int _ _) hx (by kernel_rfl)
theorem g_AT_ALTERNATIVE (P : Params) : nsIn (K0 P) mainGlobals (Str.ofString "AT_ALTERNATIVE") = some (some (Value.int 4 725)) := by kernel_rfl
theorem ev_AT_ALTERNATIVE (hx : sc.names.lookup (Str.ofString "AT_ALTERNATIVE") = some .globalImplicit) : Ev S.W b d sc (.Name (Str.ofString "AT_ALTERNATIVE") p) fr H (.int 4) H := Ev.ofGlobal (W := S.W) (g_AT_ALTERNATIVE S.w.params) (fun _ => .int _ _) hx (by kernel_rfl)
theorem g_AT_TRAIL (P : Params) : nsIn (K0 P) mainGlobals (Str.ofString "AT_TRAIL") = some (some (Value.int 5 727)) := by kernel_rfl
theorem ev_AT_TRAIL (hx : sc.names.lookup (Str.ofString "AT_TRAIL") = some .globalImplicit) : Ev S.W b d sc (.Name (Str.ofString "AT_TRAIL") p) fr H (.int 5) H := Ev.ofGlobal (W := S.W) (g_AT_TRAIL S.w.params) (fun _ => .int _ _) hx (by kernel_rfl)
theorem g_AT_HEAP (P : Params) : nsIn (K0 P) mainGlobals (Str.ofString "AT_HEAP") = some (some (Value.int 6 729)) := by kernel_rfl
theorem ev_AT_HEAP (hx : sc.names.lookup (Str.ofString "AT_HEAP") = some .globalImplicit) : Ev S.W b d sc (.Name (Str.ofString "AT_HEAP") p) fr H (.int 6) H := Ev.ofGlobal (W := S.W) (g_AT_HEAP S.w.params) (fun _ => .int _ _) hx (by kernel_rfl)
theorem g_AT_B0 (P : Params) : nsIn (K0 P) mainGlobals (Str.ofString "AT_B0") = some (some (Value.int 7 731)) := by kernel_rfl
theorem ev_AT_B0 (hx : sc.names.lookup (Str.ofString "AT_B0") = some .globalImplicit) : Ev S.W b d sc (.Name (Str.ofString "AT_B0") p) fr H (.int 7) H := Ev.ofGlobal (W := S.W) (g_AT_B0 S.w.params) (fun _ => .int _ _) hx (by kernel_rfl)
theorem g_EXTRA (P : Params) : nsIn (K0 P) mainGlobals (Str.ofString "EXTRA") = some (some (Value.int 8 733)) := by kernel_rfl
theorem ev_EXTRA (hx : sc.names.lookup (Str.ofString "EXTRA") = some .globalImplicit) : Ev S.W b d sc (.Name (Str.ofString "EXTRA") p) fr H (.int 8) H := Ev.ofGlobal (W := S.W) (g_EXTRA S.w.params) (fun _ => .int _ _) hx (by kernel_rfl)
theorem g_slot_index (P : Params) : nsIn (K0 P) mainGlobals (Str.ofString "slot_index") = some (some (Value.ref 551)) := by kernel_rfl
theorem ev_slot_index (hx : sc.names.lookup (Str.ofString "slot_index") = some .globalImplicit) : Ev S.W b d sc (.Name (Str.ofString "slot_index") p) fr H (.val (Value.ref 551)) H := Ev.ofGlobal (W := S.W) (g_slot_index S.w.params) (fun _ => .val _) hx (by kernel_rfl)
theorem g_read (P : Params) : nsIn (K0 P) mainGlobals (Str.ofString "read") = some (some (Value.ref 558)) := by kernel_rfl
theorem ev_read (hx : sc.names.lookup (Str.ofString "read") = some .globalImplicit) : Ev S.W b d sc (.Name (Str.ofString "read") p) fr H (.val (Value.ref 558)) H := Ev.ofGlobal (W := S.W) (g_read S.w.params) (fun _ => .val _) hx (by kernel_rfl)
theorem g_write (P : Params) : nsIn (K0 P) mainGlobals (Str.ofString "write") = some (some (Value.ref 565)) := by kernel_rfl
theorem ev_write (hx : sc.names.lookup (Str.ofString "write") = some .globalImplicit) : Ev S.W b d sc (.Name (Str.ofString "write") p) fr H (.val (Value.ref 565)) H := Ev.ofGlobal (W := S.W) (g_write S.w.params) (fun _ => .val _) hx (by kernel_rfl)
theorem g_match_constant (P : Params) : nsIn (K0 P) mainGlobals (Str.ofString "match_constant") = some (some (Value.ref 572)) := by kernel_rfl
theorem ev_match_constant (hx : sc.names.lookup (Str.ofString "match_constant") = some .globalImplicit) : Ev S.W b d sc (.Name (Str.ofString "match_constant") p) fr H (.val (Value.ref 572)) H := Ev.ofGlobal (W := S.W) (g_match_constant S.w.params) (fun _ => .val _) hx (by kernel_rfl)
theorem g_Store (P : Params) : nsIn (K0 P) mainGlobals (Str.ofString "Store") = some (some (Value.ref 296)) := by kernel_rfl
theorem ev_Store (hx : sc.names.lookup (Str.ofString "Store") = some .globalImplicit) : Ev S.W b d sc (.Name (Str.ofString "Store") p) fr H (.val (Value.ref 296)) H := Ev.ofGlobal (W := S.W) (g_Store S.w.params) (fun _ => .val _) hx (by kernel_rfl)
theorem g_StepLimit (P : Params) : nsIn (K0 P) mainGlobals (Str.ofString "StepLimit") = some (some (Value.ref 71)) := by kernel_rfl
theorem ev_StepLimit (hx : sc.names.lookup (Str.ofString "StepLimit") = some .globalImplicit) : Ev S.W b d sc (.Name (Str.ofString "StepLimit") p) fr H (.val (Value.ref 71)) H := Ev.ofGlobal (W := S.W) (g_StepLimit S.w.params) (fun _ => .val _) hx (by kernel_rfl)
theorem g_Emulator (P : Params) : nsIn (K0 P) mainGlobals (Str.ofString "Emulator") = some (some (Value.ref 954)) := by kernel_rfl
theorem ev_Emulator (hx : sc.names.lookup (Str.ofString "Emulator") = some .globalImplicit) : Ev S.W b d sc (.Name (Str.ofString "Emulator") p) fr H (.val (Value.ref 954)) H := Ev.ofGlobal (W := S.W) (g_Emulator S.w.params) (fun _ => .val _) hx (by kernel_rfl)
theorem g_Areas (P : Params) : nsIn (K0 P) mainGlobals (Str.ofString "Areas") = some (some (Value.ref 540)) := by kernel_rfl
theorem ev_Areas (hx : sc.names.lookup (Str.ofString "Areas") = some .globalImplicit) : Ev S.W b d sc (.Name (Str.ofString "Areas") p) fr H (.val (Value.ref 540)) H := Ev.ofGlobal (W := S.W) (g_Areas S.w.params) (fun _ => .val _) hx (by kernel_rfl)
theorem g_move_table (P : Params) : nsIn (K0 P) mainGlobals (Str.ofString "move_table") = some (some (Value.ref 761)) := by kernel_rfl
theorem ev_move_table (hx : sc.names.lookup (Str.ofString "move_table") = some .globalImplicit) : Ev S.W b d sc (.Name (Str.ofString "move_table") p) fr H (.val (Value.ref 761)) H := Ev.ofGlobal (W := S.W) (g_move_table S.w.params) (fun _ => .val _) hx (by kernel_rfl)
theorem g_plain_control_table (P : Params) : nsIn (K0 P) mainGlobals (Str.ofString "plain_control_table") = some (some (Value.ref 887)) := by kernel_rfl
theorem ev_plain_control_table (hx : sc.names.lookup (Str.ofString "plain_control_table") = some .globalImplicit) : Ev S.W b d sc (.Name (Str.ofString "plain_control_table") p) fr H (.val (Value.ref 887)) H := Ev.ofGlobal (W := S.W) (g_plain_control_table S.w.params) (fun _ => .val _) hx (by kernel_rfl)
theorem g__law_digit (P : Params) : nsIn (K0 P) mainGlobals (Str.ofString "_law_digit") = some (some (Value.ref 963)) := by kernel_rfl
theorem ev__law_digit (hx : sc.names.lookup (Str.ofString "_law_digit") = some .globalImplicit) : Ev S.W b d sc (.Name (Str.ofString "_law_digit") p) fr H (.val (Value.ref 963)) H := Ev.ofGlobal (W := S.W) (g__law_digit S.w.params) (fun _ => .val _) hx (by kernel_rfl)
theorem g__law_facts (P : Params) : nsIn (K0 P) mainGlobals (Str.ofString "_law_facts") = some (some (Value.ref 970)) := by kernel_rfl
theorem ev__law_facts (hx : sc.names.lookup (Str.ofString "_law_facts") = some .globalImplicit) : Ev S.W b d sc (.Name (Str.ofString "_law_facts") p) fr H (.val (Value.ref 970)) H := Ev.ofGlobal (W := S.W) (g__law_facts S.w.params) (fun _ => .val _) hx (by kernel_rfl)
theorem g__law_rule (P : Params) : nsIn (K0 P) mainGlobals (Str.ofString "_law_rule") = some (some (Value.ref 977)) := by kernel_rfl
theorem ev__law_rule (hx : sc.names.lookup (Str.ofString "_law_rule") = some .globalImplicit) : Ev S.W b d sc (.Name (Str.ofString "_law_rule") p) fr H (.val (Value.ref 977)) H := Ev.ofGlobal (W := S.W) (g__law_rule S.w.params) (fun _ => .val _) hx (by kernel_rfl)
theorem g__law_answers (P : Params) : nsIn (K0 P) mainGlobals (Str.ofString "_law_answers") = some (some (Value.ref 982)) := by kernel_rfl
theorem ev__law_answers (hx : sc.names.lookup (Str.ofString "_law_answers") = some .globalImplicit) : Ev S.W b d sc (.Name (Str.ofString "_law_answers") p) fr H (.val (Value.ref 982)) H := Ev.ofGlobal (W := S.W) (g__law_answers S.w.params) (fun _ => .val _) hx (by kernel_rfl)
theorem g__law_stopped (P : Params) : nsIn (K0 P) mainGlobals (Str.ofString "_law_stopped") = some (some (Value.ref 989)) := by kernel_rfl
theorem ev__law_stopped (hx : sc.names.lookup (Str.ofString "_law_stopped") = some .globalImplicit) : Ev S.W b d sc (.Name (Str.ofString "_law_stopped") p) fr H (.val (Value.ref 989)) H := Ev.ofGlobal (W := S.W) (g__law_stopped S.w.params) (fun _ => .val _) hx (by kernel_rfl)
theorem ev_len (hx : sc.names.lookup (Str.ofString "len") = some .globalImplicit) : Ev S.W b d sc (.Name (Str.ofString "len") p) fr H (.val (Value.builtin "len")) H := Ev.ofBuiltin (W := S.W) (by kernel_rfl) (by kernel_rfl) (by decide +kernel) hx (by kernel_rfl)
theorem ev_range (hx : sc.names.lookup (Str.ofString "range") = some .globalImplicit) : Ev S.W b d sc (.Name (Str.ofString "range") p) fr H (.val (Value.type "range")) H := Ev.ofBuiltin (W := S.W) (by kernel_rfl) (by kernel_rfl) (by decide +kernel) hx (by kernel_rfl)
theorem ev_list (hx : sc.names.lookup (Str.ofString "list") = some .globalImplicit) : Ev S.W b d sc (.Name (Str.ofString "list") p) fr H (.val (Value.type "list")) H := Ev.ofBuiltin (W := S.W) (by kernel_rfl) (by kernel_rfl) (by decide +kernel) hx (by kernel_rfl)
theorem mt_Emulator_reset (P : Params) : methOk (K0 P) c_Emulator (Str.ofString "reset") a_Areas_reset = true := by kernel_rfl
theorem mt_Emulator_set_x (P : Params) : methOk (K0 P) c_Emulator (Str.ofString "set_x") a_Areas_set_x = true := by kernel_rfl
theorem mt_Emulator_set_arguments (P : Params) : methOk (K0 P) c_Emulator (Str.ofString "set_arguments") a_Areas_set_arguments = true := by kernel_rfl
theorem mt_Emulator_top (P : Params) : methOk (K0 P) c_Emulator (Str.ofString "top") a_Areas_top = true := by kernel_rfl
theorem mt_Emulator_push_environment (P : Params) : methOk (K0 P) c_Emulator (Str.ofString "push_environment") a_Areas_push_environment = true := by kernel_rfl
theorem mt_Emulator_pop_environment (P : Params) : methOk (K0 P) c_Emulator (Str.ofString "pop_environment") a_Areas_pop_environment = true := by kernel_rfl
theorem mt_Emulator_set_choice (P : Params) : methOk (K0 P) c_Emulator (Str.ofString "set_choice") a_Areas_set_choice = true := by kernel_rfl
theorem mt_Emulator_push_choice (P : Params) : methOk (K0 P) c_Emulator (Str.ofString "push_choice") a_Areas_push_choice = true := by kernel_rfl
theorem mt_Emulator_set_alternative (P : Params) : methOk (K0 P) c_Emulator (Str.ofString "set_alternative") a_Areas_set_alternative = true := by kernel_rfl
theorem mt_Emulator_choice_part (P : Params) : methOk (K0 P) c_Emulator (Str.ofString "choice_part") a_Areas_choice_part = true := by kernel_rfl
theorem mt_Emulator_restore_choice (P : Params) : methOk (K0 P) c_Emulator (Str.ofString "restore_choice") a_Areas_restore_choice = true := by kernel_rfl
theorem mt_Emulator_pop_choice (P : Params) : methOk (K0 P) c_Emulator (Str.ofString "pop_choice") a_Areas_pop_choice = true := by kernel_rfl
theorem mt_Emulator_cut_back (P : Params) : methOk (K0 P) c_Emulator (Str.ofString "cut_back") a_Areas_cut_back = true := by kernel_rfl
theorem mt_Emulator_choices (P : Params) : methOk (K0 P) c_Emulator (Str.ofString "choices") a_Areas_choices = true := by kernel_rfl
theorem mt_Emulator_clear (P : Params) : methOk (K0 P) c_Emulator (Str.ofString "clear") a_Emulator_clear = true := by kernel_rfl
theorem mt_Emulator_backtrack (P : Params) : methOk (K0 P) c_Emulator (Str.ofString "backtrack") a_Emulator_backtrack = true := by kernel_rfl
theorem mt_Emulator_enter (P : Params) : methOk (K0 P) c_Emulator (Str.ofString "enter") a_Emulator_enter = true := by kernel_rfl
theorem mt_Emulator_start_at (P : Params) : methOk (K0 P) c_Emulator (Str.ofString "start_at") a_Emulator_start_at = true := by kernel_rfl
theorem mt_Emulator_step (P : Params) : methOk (K0 P) c_Emulator (Str.ofString "step") a_Emulator_step = true := by kernel_rfl
theorem mt_Emulator_run (P : Params) : methOk (K0 P) c_Emulator (Str.ofString "run") a_Emulator_run = true := by kernel_rfl
theorem mt_Emulator_redo (P : Params) : methOk (K0 P) c_Emulator (Str.ofString "redo") a_Emulator_redo = true := by kernel_rfl
theorem mt_Store_push (P : Params) : methOk (K0 P) c_Store (Str.ofString "push") a_Cells_push = true := by kernel_rfl
theorem mt_Store_new_var (P : Params) : methOk (K0 P) c_Store (Str.ofString "new_var") a_Cells_new_var = true := by kernel_rfl
theorem mt_Store_trim (P : Params) : methOk (K0 P) c_Store (Str.ofString "trim") a_Cells_trim = true := by kernel_rfl
theorem mt_Store_deref (P : Params) : methOk (K0 P) c_Store (Str.ofString "deref") a_Cells_deref = true := by kernel_rfl
theorem mt_Store_bind (P : Params) : methOk (K0 P) c_Store (Str.ofString "bind") a_Cells_bind = true := by kernel_rfl
theorem mt_Store_mark (P : Params) : methOk (K0 P) c_Store (Str.ofString "mark") a_Cells_mark = true := by kernel_rfl
theorem mt_Store_undo_to (P : Params) : methOk (K0 P) c_Store (Str.ofString "undo_to") a_Cells_undo_to = true := by kernel_rfl
theorem mt_Store_stack_put (P : Params) : methOk (K0 P) c_Store (Str.ofString "stack_put") a_Cells_stack_put = true := by kernel_rfl
theorem nm_emu {n : Str} {k : Nat} (h : emuNs.contains n = false) : n ∉ (emuFs k m).map (·.1) := fun q => by
  have : emuNs.contains n = true := List.contains_iff_mem.mpr q
  rw [h] at this; cases this
theorem nm_sto {n : Str} {k : Nat} (h : stoNs.contains n = false) : n ∉ (stoFs k m).map (·.1) := fun q => by
  have : stoNs.contains n = true := List.contains_iff_mem.mpr q
  rw [h] at this; cases this
theorem Ex.setItemE {W : Wd} {k : Nat} {l : List AV} {n : Int} (h1 : Ev W b d sc e fr H v H₁) (h2 : Ev W b d sc o fr H₁ (.obj k) H₂) (h3 : Ev W b d sc i fr H₂ (.int n) H₃) (hk : H₃[k]? = some (.list l)) (h0 : 0 ≤ n) (hn : n < 2 ^ 63) (hlt : n.toNat < l.length)
    (hs : ∀ env, env.scope = sc → swapsWith e (some (.Subscript o i ip)) p.line env = pure false) (q : H₃.set k (.list (l.set n.toNat v)) = H') :
    Ex W b d sc (.Assign [.Subscript o i ip] e p) fr H .next fr H' := q ▸ Ex.setItem h1 h2 h3 hk h0 hn hlt hs
theorem Ev.appendE {W : Wd} {k : Nat} {l l' : List AV} (h1 : Ev W b d sc o fr H (.obj k) H₁) (h2 : Ev W b d sc e fr H₁ v H₂) (hk1 : H₁[k]? = some (.list l')) (hk : H₂[k]? = some (.list l)) (hl : l.length ≤ 100000)
    (hbase : ∀ env, attributeBase o "append" env (eval o env) = eval o env)
    (hfew : ∀ env, ((backTo p (starEach [e] env)).all (fun x => !x.1) && (backToKw p (keywordEach [] env)).all (fun x => x.1.isSome)
      && decide (([e] : List PySem.Expr).length + ([] : List Keyword).length + (if ([] : List Keyword).isEmpty then 0 else 1) < 30)) = true)
    (hline : (ap.endLine == p.line) = true) (htrees : ∀ env, backTo p (starEach [e] env) = [(false, eval e env)]) (q : H₂.set k (.list (l ++ [v])) = H') :
    Ev W b d sc (.Call (.Attribute o "append" ap) [e] [] p) fr H .none H' := q ▸ Ev.append h1 h2 hk1 hk hl hbase hfew hline htrees
theorem Ev.popE {W : Wd} {k : Nat} {l : List AV} (h1 : Ev W b d sc o fr H (.obj k) H₁) (hk : H₁[k]? = some (.list (l ++ [v]))) (hl : l.length ≤ 100000)
    (hc : ∀ env, ∃ pl, eval (.Call (.Attribute o "pop" ap) [] [] p) env = (do
      let ov ← eval o env
      standAt ap.atName
      let (f, first) ← holding [ov] (getMethod ov "pop" pl)
      callWith p f first (backTo p (starEach [] env)) (backToKw p (keywordEach [] env)))) (q : H₁.set k (.list l) = H') :
    Ev W b d sc (.Call (.Attribute o "pop" ap) [] [] p) fr H v H' := q ▸ Ev.pop h1 hk hl hc
end
end
section
open PySem PySem.W PyProof.Rows PySem.Calls PySem.Spec
section
variable {S : St0} {d : Nat} {sc : Scope} {fr : Fr2} {H H₁ : Hp} {n : Int} {e : PySem.Expr} {pos cpos np : Pos}
theorem sl_raise {prog : Program} {w : World} {A : Around} {E : Value → Shared → Prop} {s : Shared} {env : Env} {xx : Sem Value} {Q : Flow → Shared → Prop} {P : Params} (hh : A.handled = none)
    (h : wpAny (model prog w) A xx (fun v s₁ => ∃ e D t, v = .ref e ∧ (K0 P).In s₁.heap ∧ s₁.heap.get? e = some (excO 71 D t .none) ∧ E (.ref e) s₁) E s) :
    wpAny (model prog w) A (raiseStmt env (some xx) none) Q E s := by
  have hcB : (Value.ref 71 :: [Value.ref 31, .type "Exception", .type "BaseException", .type "object"]).contains (.type "BaseException") = true := by kernel_rfl
  unfold raiseStmt
  refine wpAny_bind (wpAny_mono h (fun v s₁ h₁ => ?_) fun _ _ x => x)
  obtain ⟨e, D, t, rfl, X, he, hE⟩ := h₁
  have hC := X 71 _ (sl_in P)
  obtain ⟨hp, g, d, tk, os⟩ := s₁
  repeat (first | with_reducible refine wpAny_loadPart_at he ?_ | with_reducible refine wpAny_loadPart_at hC ?_ | (with_reducible refine wpAny_isSubtype_exc hC ?_; rw [hcB]) | wp_step)
  exact wpAny_raiseNew_none hh hE
theorem sl_init {c : Cx} (O : CxOk S.W true (d + 1) sc c) {s : Shared} {m : Str → Option Value} {x : LW} (A : At S.W c m H s.heap x) {ea tp : Addr} (he : (ea, slRaw tp) ∈ x.led) (ho : ea ∉ x.own) {tk : Tok} {R : Result → Shared → Prop}
    (h : ∀ h' t' D es nn tk', (D ∉ x.led.map (·.1)) → At S.W c m H h' ((x.put ea (excO 71 D tp .none)).more D (dictOf es nn)) → getL (Str.ofString "steps") es = some (some (.int n tk')) → R (.ok (.ret .none)) { s with heap := h', toks := t' }) :
    codeAny (model S.prog S.w) c.A (.call (.ref 68) ⟨[.ref ea, .int n tk], []⟩) R s := by
  refine callYD (W := S.W) (args := [.val (.ref ea), .int n]) (args' := [.val (.ref ea), .int n]) (ps := [Str.ofString "self", Str.ofString "steps"]) (ls := []) O A (.cons (.val _) (.cons (.int n tk) .nil)) (by exact rfl) (by kernel_rfl) ?bi (by kernel_rfl) rfl (by decide +kernel) (by decide +kernel) rfl rfl rfl ?h
  case bi =>
    intro X
    exact ⟨_, .cons (.val _) (.cons (.int n tk) .nil), binds_K X rfl (o := ko_61 S.w.params) rfl rfl rfl rfl⟩
  case h =>
    intro c' O' cal h₁ t₁ m' A' F'
    have L1 : Loc [Str.ofString "self", Str.ofString "steps"] [some (.val (.ref ea)), some (.int n)] (Str.ofString "steps") (.int n) := .s .z
    have L0 : Loc [Str.ofString "self", Str.ofString "steps"] [some (.val (.ref ea)), some (.int n)] (Str.ofString "self") (.val (.ref ea)) := .z
    obtain ⟨u1, hu1, r1⟩ := F'.loc L1 (O'.nl (by rfl))
    obtain ⟨u0, hu0, r0⟩ := F'.loc L0 (O'.nl (by rfl))
    first | obtain rfl := VR.v r0 | obtain ⟨_, rfl⟩ := VR.i r0 | obtain rfl := VR.t r0 | obtain rfl := VR.n r0 | obtain ⟨_, rfl⟩ := VR.s r0 | cases r0
    obtain ⟨tk', rfl⟩ := VR.i r1
    have X := O'.X.keeps A'.F.keep
    refine wpAny_execs_cons (plainObj_wpAny_Assign_Attribute ?_ (by with_unfolding_all rfl))
    refine nameX_L A'.F hu1 ?_ (by rfl) (by rfl) (by decide +kernel)
    refine nameX_L A'.F hu0 ?_ (by rfl) (by rfl) (by decide +kernel)
    refine sl_setattr (P := S.w.params) (e := ea) (tp := tp) X (A'.N.get he) fun h' t' es nn hK hE hD hg => ?_
    have A2 := (A'.turn2 he rfl ho hK hE).1
    have fk := fresh_key A'
    have hk2 : h₁.objs.size ∉ (x.put ea (excO 71 h₁.objs.size tp .none)).led.map (·.1) := by
      show h₁.objs.size ∉ (setAt x.led ea (excO 71 h₁.objs.size tp .none)).map (·.1)
      rw [setAt_keys]; exact fk
    have A3 := (A2.add hD hk2 (Ne.symm (Nat.ne_of_lt A'.F.ns.lt)) (next_is_new A'.F)).1
    refine wpAny_execs_nil ?_
    exact h h' t' h₁.objs.size es nn tk' fk (cal.back A3) hg
theorem ExX.raise (h0 : Ev S.W true (d + 2) sc (.Name (Str.ofString "StepLimit") np) fr H (.val (.ref 71)) H) (h1 : Evs S.W true (d + 2) sc [e] fr H [.int n] H₁) (hst : ∀ env, starEach [e] env = (false, eval e env) :: starEach [] env) :
    ExX S.W (d + 2) sc (.Raise (some (.Call (.Name (Str.ofString "StepLimit") np) [e] [] cpos)) none pos) fr H n H₁ := by
  intro c O s m x A F Q E hE
  rw [arm_exec_Raise]
  refine wpAny_bind (wpAny_standAt ?_)
  refine sl_raise (P := S.w.params) (O.hh rfl) ?_
  refine wpAny_bind (wpAny_Call_ofName (h0 c O s m x A F _ _ fun u h' t' x' A' e' r' => ?_))
  first | obtain rfl := VR.v r' | obtain ⟨_, rfl⟩ := VR.i r' | obtain rfl := VR.t r' | obtain rfl := VR.n r' | obtain ⟨_, rfl⟩ := VR.s r' | cases r'
  refine callWith_K (K := S.W.K) (h₀ := c.h₀) O.X (by kernel_rfl) ?_ (hst _) rfl
  refine h1 c O _ m x' A' (F.mono e') _ _ _ fun us h2' t2 x2 A2 e2 r2 => ⟨O.X.keeps A2.F.keep, ?_⟩
  cases r2 with
  | cons r2 r3 =>
  first | obtain rfl := VR.v r3 | obtain ⟨_, rfl⟩ := VR.i r3 | obtain rfl := VR.t r3 | obtain rfl := VR.n r3 | obtain ⟨_, rfl⟩ := VR.s r3 | cases r3
  obtain ⟨tk, rfl⟩ := VR.i r2
  have X := O.X.keeps A2.F.keep
  refine sl_call (P := S.w.params) X (by show 1 ≤ sizeLine; unfold sizeLine; decide) ?_
  have fk := fresh_key A2
  have A3 := A2.more (o := slTup [.int n tk]) rfl
  have fk3 := fresh_key A3
  have A4 := A3.more (o := slRaw h2'.objs.size) rfl
  rw [Heap.size_push] at A4 fk3
  let c1 : Cx := { c with A := c.A.under (.builtin "type.__call__" ⟨.ref 71 :: [.int n tk], []⟩) }
  have O1 : CxOk S.W true (d + 1) sc c1 := ⟨O.B, O.hA, O.hk, O.XB, O.TB, (by have := O.dep; show c.A.depth + 1 + (d + 1) < 1000; omega), (by have := O.un; show c.A.units + 1 + 4 * (d + 1) + 100 < 9900; omega), O.hh, O.lc, (by have := O.d1; show 302 ≤ c.A.depth + 1; omega), (by have := O.d1; intro (q : c.A.depth + 1 = 302); omega), O.lc2⟩
  have A5 : At S.W c1 m H₁ _ _ := ⟨A4.F, A4.N, A4.ok⟩
  refine wpAny_call ?_
  refine sl_init (c := c1) O1 (s := ⟨_, s.gens, s.drawn, t2, s.os⟩) A5 (ea := h2'.objs.size + 1) (tp := h2'.objs.size) (.head _) (LW.more_off A3.ok fk3) (tk := tk) ?_
  intro h6 t6 D es nn tk' hDk A6 hg
  have he6 : ((h2'.objs.size + 1 : Addr), excO 71 D h2'.objs.size .none) ∈ ((((x2.more h2'.objs.size (slTup [.int n tk])).more (h2'.objs.size + 1) (slRaw h2'.objs.size)).put (h2'.objs.size + 1) (excO 71 D h2'.objs.size .none)).more D (dictOf es nn)).led := .tail _ (mem_setAt_self (.head _))
  have n6 := A6.N _ he6
  refine ⟨rfl, wpAny_bind (wpAny_standAt (wpAny_pure ⟨h2'.objs.size + 1, D, h2'.objs.size, rfl, O.X.keeps A6.F.keep, n6.1, ?_⟩))⟩
  have ex2 : Ext x x2 := e'.trans e2
  have ek : (h2'.objs.size + 1 : Addr) ∉ x2.led.map (·.1) := fun q => fk3 (.tail _ q)
  have ex4 : Ext x2 ((x2.more h2'.objs.size (slTup [.int n tk])).more (h2'.objs.size + 1) (slRaw h2'.objs.size)) := (LW.more_ext fk).trans (LW.more_ext fk3)
  have ex5 := ex4.put_off (o' := excO 71 D h2'.objs.size .none) ek
  have ex6 := ex5.trans (LW.more_ext (a := D) (o := dictOf es nn) (by
    show D ∉ (setAt _ _ _).map (·.1)
    rw [setAt_keys]; exact hDk))
  refine hE m (h2'.objs.size + 1) D h2'.objs.size h6 h6 t6 _ [] .none .none es nn tk' ⟨A6.F, A6.N, A6.ok⟩ (ex2.trans ex6) (fun q => ek (ex2.keys _ q)) he6 (show _ ∉ x2.own from fun q => ek (A2.ok.ownKeys q)) (.head _) (fun q => hDk (A5.ok.ownKeys q)) hg (fun a ha => nomatch ha) (.inl rfl) (Fly.start n6.1 ?_)
  intro q
  obtain ⟨env, henv, hf⟩ := List.mem_filterMap.mp q
  rcases List.mem_cons.mp henv with rfl | henv
  · exact n6.2.1 (Option.some.inj hf).symm
  · obtain ⟨o, ho, _⟩ := (O.B.frames.mem (List.mem_filterMap.mpr ⟨env, henv, hf⟩)).2
    have : c.h₀.get? (h2'.objs.size + 1) = none := n6.2.2
    rw [this] at ho
    cases ho
end
end
section
open PySem PySem.W PyProof.Rows PySem.Calls PySem.Spec
open Lean in
def wLeaf (k : String) : MacroM (TSyntax `tactic) :=
  match k with
  | "k" => `(tactic| kernel_rfl)
  | "r" => `(tactic| exact rfl)
  | "1" => `(tactic| exact fun _ => rfl)
  | "2" => `(tactic| exact fun _ _ => rfl)
  | "3" => `(tactic| exact fun _ _ _ => rfl)
  | "a" => `(tactic| with_reducible assumption)
  | "A" => `(tactic| assumption)
  | "o" => `(tactic| omega)
  | "p" => `(tactic| exact fun _ => ⟨_, rfl⟩)
  | "b" => `(tactic| exact Nat.le_of_ble_eq_true rfl)
  | "i" => `(tactic| exact fun _ q => by unfold interactive; rw [q]; rfl)
  | "E" => `(tactic| ((show Ev _ _ _ _ _ _ _ (.int _) _); walk_at "EV"))
  | "F" => `(tactic| ((show FT _ _ _ _ _ _ [AV.int 1] _ _ _ _ _); walk_at "FTW"))
  | "G" => `(tactic| ((show FT _ _ _ _ _ _ [AV.int 0, AV.int 1] _ _ _ _ _); walk_at "FTW"))
  | _ => if k.startsWith "+" then `(tactic| (walk_at "DS"; walk_at $(Syntax.mkStrLit (String.ofList k.toList.tail)))) else `(tactic| walk_at $(Syntax.mkStrLit k))
open Lean in
def wAlt (s : String) : MacroM (TSyntax `tactic) := do
  match s.splitOn " " with
  | "X" :: n :: _ => `(tactic| with_reducible exact $(mkIdent n.toName))
  | "Y" :: n :: _ => `(tactic| with_reducible exact $(mkIdent n.toName) _)
  | "Z" :: n :: _ => `(tactic| exact $(mkIdent n.toName))
  | "V" :: n :: m :: _ => `(tactic| with_reducible exact $(mkIdent n.toName) $(mkIdent m.toName))
  | "W" :: n :: _ => `(tactic| walk_at $(Syntax.mkStrLit n))
  | "L" :: n :: _ => wLeaf n
  | "T" :: n :: _ => `(tactic| (walk_at "DT"; $(← wLeaf n)))
  | m :: n :: ks =>
    let mut hs : Array (TSyntax `term) := #[]
    let mut ts : Array (TSyntax `tactic) := #[]
    let mut q : Option String := none
    for k in ks do
      if k == "_" then
        hs := hs.push (← `(_))
      else if k.startsWith "=" then
        q := some (String.ofList k.toList.tail)
      else
        let h := mkIdent (← Macro.addMacroScope (Name.mkSimple s!"k{hs.size}"))
        match k.splitOn "/" with
        | [g, l] =>
          hs := hs.push (← `(($(mkIdent g.toName) ?$h)))
          ts := ts.push (← `(tactic| case $h:ident => $(← wLeaf l):tactic))
        | _ =>
          hs := hs.push (← `(?$h))
          ts := ts.push (← `(tactic| case $h:ident => $(← wLeaf k):tactic))
    let f := mkIdent n.toName
    let e ← match q with
      | some v => `($f (n := $(Syntax.mkNumLit v)) $hs*)
      | none => if hs.isEmpty then `($f) else `($f $hs*)
    let t ← if m == "R" then `(tactic| with_reducible refine' $e) else `(tactic| refine' $e)
    if ts.isEmpty then return t
    `(tactic| ($t; $ts;*))
  | _ => Macro.throwUnsupported
open Lean in
def wTab (s : String) : MacroM (TSyntax `tactic) := do
  let as ← (s.splitOn ";").toArray.mapM wAlt
  if h : as.size = 1 then return as[0]
  `(tactic| first $[| $as:tactic]*)
local macro_rules | `(tactic| walk_at "DS") => `(tactic| try dsimp only [Mc.w_p, Mc.w_cp, Mc.w_e, Mc.w_b, Mc.w_b0, Mc.w_steps, Mc.w_max, Mc.w_halted, Mc.w_failed, Mc.w_hb, Mc.w_bb, Mc.w_xs, Mc.w_hp, Mc.w_stk, Mc.w_trl])
local macro_rules | `(tactic| walk_at "DT") => `(tactic| dsimp only [Mc.w_stk, Mc.w_b, Mc.w_e, Mc.w_hp, Mc.w_trl, Mc.w_xs, Mc.w_cp, Mc.w_hb, Mc.w_bb, Mc.w_p, Mc.w_b0])
local macro_rules | `(tactic| walk_at "W0") => wTab "U WT.done TB"
local macro_rules | `(tactic| walk_at "W1") => wTab "U WT.turn TB EXS WT.done/+TB"
section
@[irreducible] noncomputable def sput (l : List AV) (i : Int) (v : AV) : List AV := if i.toNat < l.length then l.set i.toNat v else l ++ [v]
theorem usIs1 {us : List Value} (h : us.length = 1) : ∃ a, us = [a] := List.length_eq_one_iff.mp h
theorem usIs2 {us : List Value} (h : us.length = 2) : ∃ a b, us = [a, b] := by
  cases us with
  | nil => cases h
  | cons a us => exact ⟨a, let ⟨b, e⟩ := usIs1 (Nat.succ.inj h); ⟨b, by rw [e]⟩⟩
theorem usIs3 {us : List Value} (h : us.length = 3) : ∃ a b c, us = [a, b, c] := by
  cases us with
  | nil => cases h
  | cons a us => exact ⟨a, let ⟨b, c, e⟩ := usIs2 (Nat.succ.inj h); ⟨b, c, by rw [e]⟩⟩
theorem usIs4 {us : List Value} (h : us.length = 4) : ∃ a b c d, us = [a, b, c, d] := by
  cases us with
  | nil => cases h
  | cons a us => exact ⟨a, let ⟨b, c, d, e⟩ := usIs3 (Nat.succ.inj h); ⟨b, c, d, by rw [e]⟩⟩
theorem sput_lt {l : List AV} {i : Int} {v : AV} (h0 : 0 ≤ i) (h : i < (l.length : Int)) : sput l i v = l.set i.toNat v := by unfold sput; rw [if_pos (by omega)]
theorem sput_eq {l : List AV} {i : Int} {v : AV} (h0 : 0 ≤ i) (h : ¬ i < (l.length : Int)) : sput l i v = l ++ [v] := by unfold sput; rw [if_neg (by omega)]
theorem sput_len {l : List AV} {i : Int} {v : AV} (h0 : 0 ≤ i) (hi : i ≤ (l.length : Int)) : i + 1 ≤ ((sput l i v).length : Int) ∧ ((sput l i v).length : Int) ≤ l.length + 1 := by
  unfold sput
  split
  · rw [List.length_set]; omega
  · rw [List.length_append, List.length_singleton]; omega
theorem le90 {la lb : Nat} (h : la ≤ lb) (e : Nat.ble lb 90000 = true) : la ≤ 90000 := Nat.le_trans h (Nat.le_of_ble_eq_true e)
theorem sput_step {l : List AV} {i j : Int} {v : AV} {lb : Nat} (h0 : 0 ≤ i) (h : i ≤ (l.length : Int) ∧ l.length ≤ lb) (e : j = i + 1) : j ≤ ((sput l i v).length : Int) ∧ (sput l i v).length ≤ lb + 1 := by
  have := sput_len (v := v) h0 h.1
  have h2 := h.2
  clear h
  omega
theorem sput_get {l : List AV} {i : Int} {v : AV} (h0 : 0 ≤ i) (hi : i ≤ (l.length : Int)) : (sput l i v)[i.toNat]? = some v := by
  unfold sput
  split
  · rename_i h; rw [List.getElem?_set_self h]
  · rename_i h
    have : i.toNat = l.length := by omega
    rw [this, List.getElem?_append_right (Nat.le_refl _), Nat.sub_self]; rfl
theorem sput_past {l : List AV} {i j : Int} {v w : AV} (h0 : 0 ≤ j) (h : j < i) (hw : l[j.toNat]? = some w) : (sput l i v)[j.toNat]? = some w := by
  unfold sput
  split
  · rw [List.getElem?_set_ne (by omega)]; exact hw
  · rw [List.getElem?_append_left (List.getElem?_eq_some_iff.mp hw).1]; exact hw
theorem sput_ne {l : List AV} {i j : Int} {v : AV} (h0 : 0 ≤ i) (hj : 0 ≤ j) (hi : j < (l.length : Int)) (hn : i ≠ j) : (sput l i v)[j.toNat]? = l[j.toNat]? := by
  unfold sput
  split
  · rw [List.getElem?_set_ne (by omega)]
  · rw [List.getElem?_append_left (by omega)]
end
local macro_rules | `(tactic| walk_at "MEM") => wTab "X List.mem_cons_self;R List.mem_cons_of_mem _ MEM"
local macro_rules | `(tactic| walk_at "LOC") => `(tactic| ((repeat' (first | with_reducible exact Loc.z | with_reducible refine' Loc.s ?_)); done))
local macro_rules | `(tactic| walk_at "PUT") => wTab "X Put.z;R Put.s PUT"
local macro_rules | `(tactic| walk_at "HK") => wTab "X MH0;X MH1;X MH2;X MH3;X MH4;X MH5;L a;U MHc a;L A"
local macro_rules | `(tactic| walk_at "HS") => wTab "X MHs2;X MHs3;X MHs4;X MHs5"
local macro_rules | `(tactic| walk_at "ND") => wTab "Z emuNs_nd;Z stoNs_nd"
local macro_rules | `(tactic| walk_at "NM") => wTab "U nm_emu k;U nm_sto k"
local macro_rules | `(tactic| walk_at "NN") => wTab "L a;L o;T o"
local macro_rules | `(tactic| walk_at "HY") => wTab "L a;L o;T o;Z rfl;T A;L A"
local macro_rules | `(tactic| walk_at "HX") => wTab "L a;X rfl;Z rfl;L A"
local macro_rules | `(tactic| walk_at "CMP") => wTab "X CmpR.lt;X CmpR.le;X CmpR.gt;X CmpR.ge;X CmpR.eqI;X CmpR.neI;X CmpR.eqS;X CmpR.eqT;X CmpR.isN_int;X CmpR.isN_none"
local macro_rules | `(tactic| walk_at "MT") => wTab "Y mt_Emulator_reset;Y mt_Emulator_set_x;Y mt_Emulator_set_arguments;Y mt_Emulator_top;Y mt_Emulator_push_environment;Y mt_Emulator_pop_environment;Y mt_Emulator_set_choice;Y mt_Emulator_push_choice;Y mt_Emulator_set_alternative;Y mt_Emulator_choice_part;Y mt_Emulator_restore_choice;Y mt_Emulator_pop_choice;Y mt_Emulator_cut_back;Y mt_Emulator_choices;Y mt_Emulator_clear;Y mt_Emulator_backtrack;Y mt_Emulator_enter;Y mt_Emulator_start_at;Y mt_Emulator_step;Y mt_Emulator_run;Y mt_Emulator_redo;Y mt_Store_push;Y mt_Store_new_var;Y mt_Store_trim;Y mt_Store_deref;Y mt_Store_bind;Y mt_Store_mark;Y mt_Store_undo_to;Y mt_Store_stack_put"
local macro_rules | `(tactic| walk_at "EVG") => wTab "R ev_REF k;R ev_SRF k;R ev_INT k;R ev_CON k;R ev_LIS k;R ev_VOID k;R ev_HALT_ADDRESS k;R ev_READ k;R ev_AT_E k;R ev_AT_CP k;R ev_AT_PREVIOUS k;R ev_AT_ALTERNATIVE k;R ev_AT_TRAIL k;R ev_AT_HEAP k;R ev_AT_B0 k;R ev_EXTRA k"
local macro_rules | `(tactic| walk_at "EVF") => wTab "R ev_slot_index k;R ev_read k;R ev_write k;R ev_match_constant k"
local macro_rules | `(tactic| walk_at "EV") => wTab "R Ev.ofLocal LOC k k;X Ev.int;X Ev.none;X Ev.bool;X Ev.str;R Ev.attr EV HK MEM ND k r 2;R Ev.litem EV EV HK NN NN HX 3;R Ev.titem EV EV NN NN HX 3;R Ev.fitem EV EV NN NN HX 3;R Ev.add EV EV;R Ev.sub EV EV;R Ev.neg EV;R Ev.notB EV;R Ev.cmp EV EV CMP r;R Ev.len ev_len/k EV HK NN 1;R Ev.lenF1 ev_len/k EV 1;R Ev.callMeth EV HK NM MT EVS 1 2 p CL;R Ev.callMeth0 EV HK NM MT p CL;R Ev.callFn EVF EVS k 1 2 CL;R Ev.appendE EV EV HK HK NN 1 1 r 1 HS;R Ev.dget EV EV HK HK A 1 p;R Ev.popE EV HK NN p HS;R Ev.tuple EVS b;R Ev.flist EVS b;W EVG"
local macro_rules | `(tactic| walk_at "EVS") => wTab "X Evs.nil;R Evs.cons EV EVS 1"
local macro_rules | `(tactic| walk_at "COND") => do `(tactic| first | $(← wTab "X rfl;L a"):tactic | (simp only [decide_eq_true_eq, decide_eq_false_iff_not, Bool.not_eq_true', Bool.not_eq_false']; omega) | (walk_at "DS"; simp only [decide_eq_true_eq, decide_eq_false_iff_not, Bool.not_eq_true', Bool.not_eq_false']; omega) | decide | $(← wTab "Z rfl"):tactic | (simp [*]; done))
local macro_rules | `(tactic| walk_at "TB") => wTab "U Ts.eq TS COND"
local macro_rules | `(tactic| walk_at "TS") => wTab "R Ts.cmp EV EV CMP r;R Ts.not TS;R Ts.orT TB;R Ts.orF TB TS;R Ts.val EV 2"
local macro_rules | `(tactic| walk_at "IF") => wTab "R Ex.ifT TB EXS;R Ex.ifF TB EXS"
local macro_rules | `(tactic| walk_at "ST") => wTab "R Ex.assign EV PUT k 2;R Ex.set_p EV EV 2;R Ex.set_cp EV EV 2;R Ex.set_e EV EV 2;R Ex.set_b EV EV 2;R Ex.set_b0 EV EV 2;R Ex.set_max_steps EV EV 2;R Ex.set_steps EV EV 2;R Ex.set_halted EV EV 2;R Ex.set_failed EV EV 2;R Ex.set_hb EV EV 2;R Ex.set_bb EV EV 2;R Ex.aug_steps EV EV;R Ex.aug_p EV EV;R Ex.aug_max_steps EV EV;R Ex.setItemE EV EV EV HK NN NN NN 2 HS;R Ex.augName LOC EV PUT k;R Ex.expr EV i 2;W IF"
local macro_rules | `(tactic| walk_at "EXS") => `(tactic| first
  | with_reducible exact Exs.nil
  | ((with_reducible show Exs _ _ _ _ (PySem.Stmt.Return (some _) _ :: _) _ _ _ _ _); (with_reducible refine' Exs.ret (Ex.ret ?a)); (case a => walk_at "EV"))
  | ((with_reducible show Exs _ _ _ _ (PySem.Stmt.Return Option.none _ :: _) _ _ _ _ _); with_reducible exact Exs.ret Ex.retN)
  | ((with_reducible refine' Exs.next ?a ?b); (case a => walk_at "ST"); (case b => (walk_at "DS"; walk_at "EXS")))
  | ((with_reducible refine' Exs.ret ?a); (case a => walk_at "IF"))
  | exact Exs.nil)
section
section
variable {S : St0}
theorem slot_index_ok {b : Bool} {d : Nat} {H1 H2 : Hp} {m : Mc} {n : Int} : Cl S.W b (d + 1) a_slot_index [.obj H1.length, .int n] (MH H1 m H2) (.int (m.e + 1 + n)) (MH H1 m H2) := by
  refine' Cl.eq ?cl ?qr ?qh
  case cl =>
    refine' Cl.ofBody (ps := [Str.ofString "m", Str.ofString "number"]) (ls := []) ?f ?cd ?bi ?lo ?n ?nd ?ce ?co ?ge ?k ?h ?r
    case f => exact rfl
    case cd => kernel_rfl
    case bi =>
      intro us hu
      obtain ⟨u0, u1, rfl⟩ := usIs2 hu
      rfl
    case lo => kernel_rfl
    case n => rfl
    case nd => decide +kernel
    case ce => decide +kernel
    case co => rfl
    case ge => rfl
    case k => rfl
    case h =>
      dsimp only [startFr, List.map, List.cons_append, List.nil_append]
      walk_at "DS"
      walk_at "EXS"
    case r => rfl
  case qr => rfl
  case qh => rfl
end
end
local macro_rules | `(tactic| walk_at "CL") => wTab "U slot_index_ok"
section
section
variable {S : St0}
theorem mark_ok {b : Bool} {d : Nat} {H1 H2 : Hp} {m : Mc} (h : m.trl.length < 2 ^ 63) : Cl S.W b (d + 1) a_Cells_mark [.obj (H1.length + 1)] (MH H1 m H2) (.int m.trl.length) (MH H1 m H2) := by
  refine' Cl.eq ?cl ?qr ?qh
  case cl =>
    refine' Cl.ofBody (ps := [Str.ofString "self"]) (ls := []) ?f ?cd ?bi ?lo ?n ?nd ?ce ?co ?ge ?k ?h ?r
    case f => exact rfl
    case cd => kernel_rfl
    case bi =>
      intro us hu
      obtain ⟨u0, rfl⟩ := usIs1 hu
      rfl
    case lo => kernel_rfl
    case n => rfl
    case nd => decide +kernel
    case ce => decide +kernel
    case co => rfl
    case ge => rfl
    case k => rfl
    case h =>
      dsimp only [startFr, List.map, List.cons_append, List.nil_append]
      walk_at "DS"
      walk_at "EXS"
    case r => rfl
  case qr => rfl
  case qh => rfl
end
end
local macro_rules | `(tactic| walk_at "CL") => wTab "U mark_ok HY"
section
section
variable {S : St0}
theorem read_x_ok {b : Bool} {d : Nat} {H1 H2 : Hp} {m : Mc} {n : Int} {v : AV} (h0 : 0 ≤ n) (hn : n < 2 ^ 63) (hx : m.xs[n.toNat]? = some v) : Cl S.W b (d + 3) a_read [.obj H1.length, .tup [.str "x", .int n]] (MH H1 m H2) (v) (MH H1 m H2) := by
  refine' Cl.eq ?cl ?qr ?qh
  case cl =>
    refine' Cl.ofBody (ps := [Str.ofString "m", Str.ofString "operand"]) (ls := []) ?f ?cd ?bi ?lo ?n ?nd ?ce ?co ?ge ?k ?h ?r
    case f => exact rfl
    case cd => kernel_rfl
    case bi =>
      intro us hu
      obtain ⟨u0, u1, rfl⟩ := usIs2 hu
      rfl
    case lo => kernel_rfl
    case n => rfl
    case nd => decide +kernel
    case ce => decide +kernel
    case co => rfl
    case ge => rfl
    case k => rfl
    case h =>
      dsimp only [startFr, List.map, List.cons_append, List.nil_append]
      walk_at "DS"
      walk_at "EXS"
    case r => rfl
  case qr => rfl
  case qh => rfl
end
end
local macro_rules | `(tactic| walk_at "CL") => wTab "U read_x_ok HY HY HY"
section
section
variable {S : St0}
theorem read_y_ok {b : Bool} {d : Nat} {H1 H2 : Hp} {m : Mc} {n : Int} {v : AV} (h0 : 0 ≤ m.e + 1 + n) (hn : m.e + 1 + n < 2 ^ 63) (hx : m.stk[(m.e + 1 + n).toNat]? = some v) : Cl S.W b (d + 3) a_read [.obj H1.length, .tup [.str "y", .int n]] (MH H1 m H2) (v) (MH H1 m H2) := by
  refine' Cl.eq ?cl ?qr ?qh
  case cl =>
    refine' Cl.ofBody (ps := [Str.ofString "m", Str.ofString "operand"]) (ls := []) ?f ?cd ?bi ?lo ?n ?nd ?ce ?co ?ge ?k ?h ?r
    case f => exact rfl
    case cd => kernel_rfl
    case bi =>
      intro us hu
      obtain ⟨u0, u1, rfl⟩ := usIs2 hu
      rfl
    case lo => kernel_rfl
    case n => rfl
    case nd => decide +kernel
    case ce => decide +kernel
    case co => rfl
    case ge => rfl
    case k => rfl
    case h =>
      dsimp only [startFr, List.map, List.cons_append, List.nil_append]
      walk_at "DS"
      walk_at "EXS"
    case r => rfl
  case qr => rfl
  case qh => rfl
end
end
local macro_rules | `(tactic| walk_at "CL") => wTab "U read_y_ok HY HY HY"
local macro_rules | `(tactic| walk_at "ST") => wTab "R Ex.while =0 W0"
section
section
variable {S : St0}
theorem stack_put_lt {b : Bool} {d : Nat} {H1 H2 : Hp} {m : Mc} {i : Int} {v : AV} (h0 : 0 ≤ i) (hi : i < (m.stk.length : Int)) (hl : m.stk.length ≤ 90000) : Cl S.W b (d + 3) a_Cells_stack_put [.obj (H1.length + 1), .int i, v] (MH H1 m H2) (.none) (MH H1 (m.w_stk (m.stk.set i.toNat v)) H2) := by
  refine' Cl.eq ?cl ?qr ?qh
  case cl =>
    refine' Cl.ofBody (ps := [Str.ofString "self", Str.ofString "i", Str.ofString "value"]) (ls := [Str.ofString "stack"]) ?f ?cd ?bi ?lo ?n ?nd ?ce ?co ?ge ?k ?h ?r
    case f => exact rfl
    case cd => kernel_rfl
    case bi =>
      intro us hu
      obtain ⟨u0, u1, u2, rfl⟩ := usIs3 hu
      rfl
    case lo => kernel_rfl
    case n => rfl
    case nd => decide +kernel
    case ce => decide +kernel
    case co => rfl
    case ge => rfl
    case k => rfl
    case h =>
      dsimp only [startFr, List.map, List.cons_append, List.nil_append]
      walk_at "DS"
      walk_at "EXS"
    case r => rfl
  case qr => rfl
  case qh => rfl
end
end
local macro_rules | `(tactic| walk_at "CL") => wTab "U stack_put_lt HY HY HY"
section
section
variable {S : St0}
theorem stack_put_eq {b : Bool} {d : Nat} {H1 H2 : Hp} {m : Mc} {i : Int} {v : AV} (h0 : 0 ≤ i) (hi : ¬ i < (m.stk.length : Int)) (hj : ¬ (m.stk.length : Int) < i) (hl : m.stk.length ≤ 90000) : Cl S.W b (d + 3) a_Cells_stack_put [.obj (H1.length + 1), .int i, v] (MH H1 m H2) (.none) (MH H1 (m.w_stk (m.stk ++ [v])) H2) := by
  refine' Cl.eq ?cl ?qr ?qh
  case cl =>
    refine' Cl.ofBody (ps := [Str.ofString "self", Str.ofString "i", Str.ofString "value"]) (ls := [Str.ofString "stack"]) ?f ?cd ?bi ?lo ?n ?nd ?ce ?co ?ge ?k ?h ?r
    case f => exact rfl
    case cd => kernel_rfl
    case bi =>
      intro us hu
      obtain ⟨u0, u1, u2, rfl⟩ := usIs3 hu
      rfl
    case lo => kernel_rfl
    case n => rfl
    case nd => decide +kernel
    case ce => decide +kernel
    case co => rfl
    case ge => rfl
    case k => rfl
    case h =>
      dsimp only [startFr, List.map, List.cons_append, List.nil_append]
      walk_at "DS"
      walk_at "EXS"
    case r => rfl
  case qr => rfl
  case qh => rfl
end
end
local macro_rules | `(tactic| walk_at "CL") => wTab "U stack_put_eq HY HY HY HY"
section
section
variable {S : St0}
theorem stack_put_ok {b : Bool} {d : Nat} {H1 H2 : Hp} {m : Mc} {i : Int} {v : AV} (h0 : 0 ≤ i) (hi : i ≤ (m.stk.length : Int)) (hl : m.stk.length ≤ 90000) : Cl S.W b (d + 3) a_Cells_stack_put [.obj (H1.length + 1), .int i, v] (MH H1 m H2) .none (MH H1 (m.w_stk (sput m.stk i v)) H2) := by
  by_cases h : i < (m.stk.length : Int)
  · rw [sput_lt h0 h]
    exact stack_put_lt h0 h hl
  · rw [sput_eq h0 h]
    exact stack_put_eq h0 h (by omega) hl
end
end
local macro_rules | `(tactic| walk_at "CL") => wTab "U stack_put_ok HY HY HY"
section
section
variable {S : St0}
theorem set_x_lt {b : Bool} {d : Nat} {H1 H2 : Hp} {m : Mc} {n : Int} {v : AV} (h0 : 0 ≤ n) (hn : n < (m.xs.length : Int)) (hl : m.xs.length ≤ 90000) : Cl S.W b (d + 3) a_Areas_set_x [.obj H1.length, .int n, v] (MH H1 m H2) (.none) (MH H1 (m.w_xs (m.xs.set n.toNat v)) H2) := by
  refine' Cl.eq ?cl ?qr ?qh
  case cl =>
    refine' Cl.ofBody (ps := [Str.ofString "self", Str.ofString "number", Str.ofString "cell"]) (ls := []) ?f ?cd ?bi ?lo ?n ?nd ?ce ?co ?ge ?k ?h ?r
    case f => exact rfl
    case cd => kernel_rfl
    case bi =>
      intro us hu
      obtain ⟨u0, u1, u2, rfl⟩ := usIs3 hu
      rfl
    case lo => kernel_rfl
    case n => rfl
    case nd => decide +kernel
    case ce => decide +kernel
    case co => rfl
    case ge => rfl
    case k => rfl
    case h =>
      dsimp only [startFr, List.map, List.cons_append, List.nil_append]
      walk_at "DS"
      walk_at "EXS"
    case r => rfl
  case qr => rfl
  case qh => rfl
end
end
local macro_rules | `(tactic| walk_at "CL") => wTab "U set_x_lt HY HY HY"
section
section
variable {S : St0}
theorem choice_part_ok {b : Bool} {d : Nat} {H1 H2 : Hp} {m : Mc} {k q : Int} {v : AV} (h0 : 0 ≤ m.b) (hb : m.b < 100000) (hk : m.stk[m.b.toNat]? = some (.int k)) (h1 : 0 ≤ m.b + k + q) (h2 : m.b + k + q < 100000) (hv : m.stk[(m.b + k + q).toNat]? = some v) : Cl S.W b (d + 3) a_Areas_choice_part [.obj H1.length, .int q] (MH H1 m H2) (v) (MH H1 m H2) := by
  refine' Cl.eq ?cl ?qr ?qh
  case cl =>
    refine' Cl.ofBody (ps := [Str.ofString "self", Str.ofString "part"]) (ls := [Str.ofString "stack"]) ?f ?cd ?bi ?lo ?n ?nd ?ce ?co ?ge ?k ?h ?r
    case f => exact rfl
    case cd => kernel_rfl
    case bi =>
      intro us hu
      obtain ⟨u0, u1, rfl⟩ := usIs2 hu
      rfl
    case lo => kernel_rfl
    case n => rfl
    case nd => decide +kernel
    case ce => decide +kernel
    case co => rfl
    case ge => rfl
    case k => rfl
    case h =>
      dsimp only [startFr, List.map, List.cons_append, List.nil_append]
      walk_at "DS"
      walk_at "EXS"
    case r => rfl
  case qr => rfl
  case qh => rfl
end
end
local macro_rules | `(tactic| walk_at "CL") => wTab "U choice_part_ok HY HY HY HY HY HY"
section
section
variable {S : St0}
theorem set_choice_neg {b : Bool} {d : Nat} {H1 H2 : Hp} {m : Mc} {n : Int} (hn : n < 0) : Cl S.W b (d + 3) a_Areas_set_choice [.obj H1.length, .int n] (MH H1 m H2) (.none) (MH H1 (((m.w_b n).w_hb 0).w_bb 0) H2) := by
  refine' Cl.eq ?cl ?qr ?qh
  case cl =>
    refine' Cl.ofBody (ps := [Str.ofString "self", Str.ofString "b"]) (ls := [Str.ofString "store"]) ?f ?cd ?bi ?lo ?n ?nd ?ce ?co ?ge ?k ?h ?r
    case f => exact rfl
    case cd => kernel_rfl
    case bi =>
      intro us hu
      obtain ⟨u0, u1, rfl⟩ := usIs2 hu
      rfl
    case lo => kernel_rfl
    case n => rfl
    case nd => decide +kernel
    case ce => decide +kernel
    case co => rfl
    case ge => rfl
    case k => rfl
    case h =>
      dsimp only [startFr, List.map, List.cons_append, List.nil_append]
      walk_at "DS"
      walk_at "EXS"
    case r => rfl
  case qr => rfl
  case qh => rfl
end
end
local macro_rules | `(tactic| walk_at "CL") => wTab "U set_choice_neg HY"
section
section
variable {S : St0}
theorem set_choice_pos {b : Bool} {d : Nat} {H1 H2 : Hp} {m : Mc} {n k z : Int} (hn : ¬ n < 0) (hn2 : n < 100000) (hk : m.stk[n.toNat]? = some (.int k)) (h1 : 0 ≤ n + k + 6) (h2 : n + k + 6 < 100000) (hv : m.stk[(n + k + 6).toNat]? = some (.int z)) : Cl S.W b (d + 3) a_Areas_set_choice [.obj H1.length, .int n] (MH H1 m H2) (.none) (MH H1 (((m.w_b n).w_hb z).w_bb n) H2) := by
  refine' Cl.eq ?cl ?qr ?qh
  case cl =>
    refine' Cl.ofBody (ps := [Str.ofString "self", Str.ofString "b"]) (ls := [Str.ofString "store"]) ?f ?cd ?bi ?lo ?n ?nd ?ce ?co ?ge ?k ?h ?r
    case f => exact rfl
    case cd => kernel_rfl
    case bi =>
      intro us hu
      obtain ⟨u0, u1, rfl⟩ := usIs2 hu
      rfl
    case lo => kernel_rfl
    case n => rfl
    case nd => decide +kernel
    case ce => decide +kernel
    case co => rfl
    case ge => rfl
    case k => rfl
    case h =>
      dsimp only [startFr, List.map, List.cons_append, List.nil_append]
      walk_at "DS"
      walk_at "EXS"
    case r => rfl
  case qr => rfl
  case qh => rfl
end
end
local macro_rules | `(tactic| walk_at "CL") => wTab "U set_choice_pos HY HY HY HY HY HY"
section
section
variable {W : Wd} {b : Bool} {d : Nat} {sc : Scope} {fr : Fr2} {H H₁ H₂ : Hp} {v : AV} {p : Pos}
theorem Ev.listNewE {es : List PySem.Expr} {l : List AV} {k : Nat} (h1 : Evs W b d sc es fr H l H₁) (hl : l.length ≤ 1000) (hk : H₁.length = k) (hq : H₁ ++ [.list l] = H₂) : Ev W b d sc (.List es p) fr H (.obj k) H₂ := by
  subst hk hq
  exact Ev.listNew h1 hl
theorem Ev.eqH {e : PySem.Expr} (h : Ev W b d sc e fr H v H₁) (q : H₁ = H₂) : Ev W b d sc e fr H v H₂ := q ▸ h
end
noncomputable abbrev st0 (n : Nat) : List (Str × AV) := [(Str.ofString "symbols", AV.none), (Str.ofString "max_heap", .int 100000), (Str.ofString "heap", .obj (n + 1)), (Str.ofString "stack", .obj (n + 2)), (Str.ofString "trail", .obj (n + 3)), (Str.ofString "hb", .int 0), (Str.ofString "bb", .int 0)]
noncomputable abbrev stT (n : Nat) : Hp := [.inst c_Store (st0 n), .list [], .list [], .list []]
noncomputable abbrev rsT (n : Nat) : Hp := [.inst c_Store (st0 n), .list [], .list [], .list [], .list [voidV]]
noncomputable def rsF (fs : List (Str × AV)) (n : Nat) : List (Str × AV) := putF (putF (putF (putF (putF (putF (putF (putF (putF (putF (putF (putF (putF fs (Str.ofString "store") (.obj n)) (Str.ofString "x") (.obj (n + 4))) (Str.ofString "p") (.int 0)) (Str.ofString "cp") (.int 0)) (Str.ofString "e") (.int (-1))) (Str.ofString "b") (.int (-1))) (Str.ofString "b0") (.int (-1))) (Str.ofString "mode") (.str "read")) (Str.ofString "s") (.int 0)) (Str.ofString "guard") (voidV)) (Str.ofString "roots") (.any)) (Str.ofString "bags") (.any)) (Str.ofString "collect_wanted") (.bool false)
noncomputable def clF (fs : List (Str × AV)) (n : Nat) : List (Str × AV) := putF (putF (putF (putF (putF (rsF fs n) (Str.ofString "p") (.int 1)) (Str.ofString "cp") (.int 1)) (Str.ofString "steps") (.int 0)) (Str.ofString "halted") (.bool true)) (Str.ofString "failed") (.bool true)
noncomputable def SH (H : Hp) (i : Nat) (O : MO) (T : Hp) : Hp := H.set i O ++ T
section
variable {H T : Hp} {i : Nat} {O O' : MO}
theorem SH_at (hi : i < H.length) : (SH H i O T)[i]? = some O := by
  unfold SH
  rw [List.getElem?_append_left (by rw [List.length_set]; exact hi), List.getElem?_set_self hi]
theorem SH_set (hi : i < H.length) : (SH H i O T).set i O' = SH H i O' T := by
  unfold SH
  rw [List.set_append_left _ _ (by rw [List.length_set]; exact hi), List.set_set]
theorem SH_len : (SH H i O T).length = H.length + T.length := by
  unfold SH
  rw [List.length_append, List.length_set]
theorem SH_more {X : Hp} : SH H i O T ++ X = SH H i O (T ++ X) := by unfold SH; rw [List.append_assoc]
theorem SH_one (hi : i < H.length) : (H ++ T).set i O = SH H i O T := by unfold SH; rw [List.set_append_left _ _ hi]
end
section
variable {S : St0}
theorem cells_ok {b : Bool} {d : Nat} {H : Hp} : Cl S.W b (d + 1) a_Cells___init__ [.obj H.length, .none, .int 100000] (H ++ [.inst c_Store []]) .none (H ++ stT H.length) := by
  refine' Cl.ofBodyD (W := S.W) (args' := [.obj H.length, .none, .int 100000]) (ps := [Str.ofString "self", Str.ofString "symbols", Str.ofString "max_heap"]) (ls := []) (fl := .next) (by exact rfl) (by kernel_rfl) ?bi (by kernel_rfl) rfl (by decide +kernel) (by decide +kernel) rfl rfl rfl ?h rfl
  case bi =>
    intro s x us hu X
    obtain ⟨_, _, rfl, r0, hu⟩ := VRs.cc hu
    obtain ⟨_, _, rfl, r1, hu⟩ := VRs.cc hu
    obtain ⟨_, _, rfl, r2, hu⟩ := VRs.cc hu
    obtain rfl := VRs.zz hu
    exact ⟨_, .cons r0 (.cons r1 (.cons r2 .nil)), binds_K X rfl (o := ko_103 S.w.params) rfl rfl rfl rfl⟩
  case h =>
    have hb0 : FB [] 0 := ⟨List.nodup_nil, Nat.le_refl _⟩
    refine' Exs.next (H₁ := H ++ (.inst c_Store (putF ([]) (Str.ofString "symbols") (.none)) :: [])) (Ex.setAttrE (C := c_Store) (fs := []) (Ev.ofLocal (v := AV.none) (.s .z) (by kernel_rfl) (by kernel_rfl)) (Ev.ofLocal (v := .obj H.length) .z (by kernel_rfl) (by kernel_rfl)) (at_app _ _ 0) (putF_put _ _ _) (FB.put hb0).nd (Nat.le_trans (FB.put hb0).len (by decide)) (by kernel_rfl) (fun _ _ => rfl) (set_app _ _ 0 _)) ?zs0
    case zs0 =>
    have hb1 : FB (putF ([]) (Str.ofString "symbols") (.none)) 1 := FB.put hb0
    refine' Exs.next (H₁ := H ++ (.inst c_Store (putF (putF ([]) (Str.ofString "symbols") (.none)) (Str.ofString "max_heap") (.int 100000)) :: [])) (Ex.setAttrE (C := c_Store) (fs := putF ([]) (Str.ofString "symbols") (.none)) (Ev.ofLocal (v := .int 100000) (.s (.s .z)) (by kernel_rfl) (by kernel_rfl)) (Ev.ofLocal (v := .obj H.length) .z (by kernel_rfl) (by kernel_rfl)) (at_app _ _ 0) (putF_put _ _ _) (FB.put hb1).nd (Nat.le_trans (FB.put hb1).len (by decide)) (by kernel_rfl) (fun _ _ => rfl) (set_app _ _ 0 _)) ?zs1
    case zs1 =>
    have hb2 : FB (putF (putF ([]) (Str.ofString "symbols") (.none)) (Str.ofString "max_heap") (.int 100000)) 2 := FB.put hb1
    refine' Exs.next (H₁ := H ++ (.inst c_Store (putF (putF (putF ([]) (Str.ofString "symbols") (.none)) (Str.ofString "max_heap") (.int 100000)) (Str.ofString "heap") (.obj (H.length + 1))) :: [.list []])) (Ex.setAttrE (C := c_Store) (fs := putF (putF ([]) (Str.ofString "symbols") (.none)) (Str.ofString "max_heap") (.int 100000)) (Ev.listNewE (k := H.length + 1) Evs.nil (by decide) (by rw [List.length_append]; rfl) (H₂ := H ++ (.inst c_Store (putF (putF ([]) (Str.ofString "symbols") (.none)) (Str.ofString "max_heap") (.int 100000)) :: [.list []])) (by rw [List.append_assoc]; rfl)) (Ev.ofLocal (v := .obj H.length) .z (by kernel_rfl) (by kernel_rfl)) (at_app _ _ 0) (putF_put _ _ _) (FB.put hb2).nd (Nat.le_trans (FB.put hb2).len (by decide)) (by kernel_rfl) (fun _ _ => rfl) (set_app _ _ 0 _)) ?zs2
    case zs2 =>
    have hb3 : FB (putF (putF (putF ([]) (Str.ofString "symbols") (.none)) (Str.ofString "max_heap") (.int 100000)) (Str.ofString "heap") (.obj (H.length + 1))) 3 := FB.put hb2
    refine' Exs.next (H₁ := H ++ (.inst c_Store (putF (putF (putF (putF ([]) (Str.ofString "symbols") (.none)) (Str.ofString "max_heap") (.int 100000)) (Str.ofString "heap") (.obj (H.length + 1))) (Str.ofString "stack") (.obj (H.length + 2))) :: [.list [], .list []])) (Ex.setAttrE (C := c_Store) (fs := putF (putF (putF ([]) (Str.ofString "symbols") (.none)) (Str.ofString "max_heap") (.int 100000)) (Str.ofString "heap") (.obj (H.length + 1))) (Ev.listNewE (k := H.length + 2) Evs.nil (by decide) (by rw [List.length_append]; rfl) (H₂ := H ++ (.inst c_Store (putF (putF (putF ([]) (Str.ofString "symbols") (.none)) (Str.ofString "max_heap") (.int 100000)) (Str.ofString "heap") (.obj (H.length + 1))) :: [.list [], .list []])) (by rw [List.append_assoc]; rfl)) (Ev.ofLocal (v := .obj H.length) .z (by kernel_rfl) (by kernel_rfl)) (at_app _ _ 0) (putF_put _ _ _) (FB.put hb3).nd (Nat.le_trans (FB.put hb3).len (by decide)) (by kernel_rfl) (fun _ _ => rfl) (set_app _ _ 0 _)) ?zs3
    case zs3 =>
    have hb4 : FB (putF (putF (putF (putF ([]) (Str.ofString "symbols") (.none)) (Str.ofString "max_heap") (.int 100000)) (Str.ofString "heap") (.obj (H.length + 1))) (Str.ofString "stack") (.obj (H.length + 2))) 4 := FB.put hb3
    refine' Exs.next (H₁ := H ++ (.inst c_Store (putF (putF (putF (putF (putF ([]) (Str.ofString "symbols") (.none)) (Str.ofString "max_heap") (.int 100000)) (Str.ofString "heap") (.obj (H.length + 1))) (Str.ofString "stack") (.obj (H.length + 2))) (Str.ofString "trail") (.obj (H.length + 3))) :: [.list [], .list [], .list []])) (Ex.setAttrE (C := c_Store) (fs := putF (putF (putF (putF ([]) (Str.ofString "symbols") (.none)) (Str.ofString "max_heap") (.int 100000)) (Str.ofString "heap") (.obj (H.length + 1))) (Str.ofString "stack") (.obj (H.length + 2))) (Ev.listNewE (k := H.length + 3) Evs.nil (by decide) (by rw [List.length_append]; rfl) (H₂ := H ++ (.inst c_Store (putF (putF (putF (putF ([]) (Str.ofString "symbols") (.none)) (Str.ofString "max_heap") (.int 100000)) (Str.ofString "heap") (.obj (H.length + 1))) (Str.ofString "stack") (.obj (H.length + 2))) :: [.list [], .list [], .list []])) (by rw [List.append_assoc]; rfl)) (Ev.ofLocal (v := .obj H.length) .z (by kernel_rfl) (by kernel_rfl)) (at_app _ _ 0) (putF_put _ _ _) (FB.put hb4).nd (Nat.le_trans (FB.put hb4).len (by decide)) (by kernel_rfl) (fun _ _ => rfl) (set_app _ _ 0 _)) ?zs4
    case zs4 =>
    have hb5 : FB (putF (putF (putF (putF (putF ([]) (Str.ofString "symbols") (.none)) (Str.ofString "max_heap") (.int 100000)) (Str.ofString "heap") (.obj (H.length + 1))) (Str.ofString "stack") (.obj (H.length + 2))) (Str.ofString "trail") (.obj (H.length + 3))) 5 := FB.put hb4
    refine' Exs.next (H₁ := H ++ (.inst c_Store (putF (putF (putF (putF (putF (putF ([]) (Str.ofString "symbols") (.none)) (Str.ofString "max_heap") (.int 100000)) (Str.ofString "heap") (.obj (H.length + 1))) (Str.ofString "stack") (.obj (H.length + 2))) (Str.ofString "trail") (.obj (H.length + 3))) (Str.ofString "hb") (.int 0)) :: [.list [], .list [], .list []])) (Ex.setAttrE (C := c_Store) (fs := putF (putF (putF (putF (putF ([]) (Str.ofString "symbols") (.none)) (Str.ofString "max_heap") (.int 100000)) (Str.ofString "heap") (.obj (H.length + 1))) (Str.ofString "stack") (.obj (H.length + 2))) (Str.ofString "trail") (.obj (H.length + 3))) Ev.int (Ev.ofLocal (v := .obj H.length) .z (by kernel_rfl) (by kernel_rfl)) (at_app _ _ 0) (putF_put _ _ _) (FB.put hb5).nd (Nat.le_trans (FB.put hb5).len (by decide)) (by kernel_rfl) (fun _ _ => rfl) (set_app _ _ 0 _)) ?zs5
    case zs5 =>
    have hb6 : FB (putF (putF (putF (putF (putF (putF ([]) (Str.ofString "symbols") (.none)) (Str.ofString "max_heap") (.int 100000)) (Str.ofString "heap") (.obj (H.length + 1))) (Str.ofString "stack") (.obj (H.length + 2))) (Str.ofString "trail") (.obj (H.length + 3))) (Str.ofString "hb") (.int 0)) 6 := FB.put hb5
    refine' Exs.next (H₁ := H ++ (.inst c_Store (putF (putF (putF (putF (putF (putF (putF ([]) (Str.ofString "symbols") (.none)) (Str.ofString "max_heap") (.int 100000)) (Str.ofString "heap") (.obj (H.length + 1))) (Str.ofString "stack") (.obj (H.length + 2))) (Str.ofString "trail") (.obj (H.length + 3))) (Str.ofString "hb") (.int 0)) (Str.ofString "bb") (.int 0)) :: [.list [], .list [], .list []])) (Ex.setAttrE (C := c_Store) (fs := putF (putF (putF (putF (putF (putF ([]) (Str.ofString "symbols") (.none)) (Str.ofString "max_heap") (.int 100000)) (Str.ofString "heap") (.obj (H.length + 1))) (Str.ofString "stack") (.obj (H.length + 2))) (Str.ofString "trail") (.obj (H.length + 3))) (Str.ofString "hb") (.int 0)) Ev.int (Ev.ofLocal (v := .obj H.length) .z (by kernel_rfl) (by kernel_rfl)) (at_app _ _ 0) (putF_put _ _ _) (FB.put hb6).nd (Nat.le_trans (FB.put hb6).len (by decide)) (by kernel_rfl) (fun _ _ => rfl) (set_app _ _ 0 _)) ?zs6
    case zs6 =>
    have hb7 : FB (putF (putF (putF (putF (putF (putF (putF ([]) (Str.ofString "symbols") (.none)) (Str.ofString "max_heap") (.int 100000)) (Str.ofString "heap") (.obj (H.length + 1))) (Str.ofString "stack") (.obj (H.length + 2))) (Str.ofString "trail") (.obj (H.length + 3))) (Str.ofString "hb") (.int 0)) (Str.ofString "bb") (.int 0)) 7 := FB.put hb6
    exact Exs.nil
theorem reset_ok {b : Bool} {d : Nat} {H : Hp} {i : Nat} {fs : List (Str × AV)} (hH : H[i]? = some (.inst c_Emulator fs)) (hs : (Str.ofString "symbols", AV.none) ∈ fs) (hm : (Str.ofString "max_heap", AV.int 100000) ∈ fs) (hb0 : FB fs 100) :
    Cl S.W b (d + 3) a_Areas_reset [.obj i] H .none (SH H i (.inst c_Emulator (rsF fs H.length)) (rsT H.length)) := by
  have hi : i < H.length := (List.getElem?_eq_some_iff.mp hH).1
  refine' Cl.ofBody (W := S.W) (ps := [Str.ofString "self"]) (ls := []) (fl := .next) (by exact rfl) (by kernel_rfl) ?bi (by kernel_rfl) rfl (by decide +kernel) (by decide +kernel) rfl rfl rfl ?h rfl
  case bi =>
    intro us hu
    obtain ⟨u0, rfl⟩ := usIs1 hu
    rfl
  case h =>
    refine' Exs.next (H₁ := SH H i (.inst c_Emulator (putF (fs) (Str.ofString "store") (.obj H.length))) (stT H.length)) (Ex.setAttrE (C := c_Emulator) (fs := fs) (Ev.callCls (H₁ := H) (H₂ := H ++ stT H.length) (ev_Store (by kernel_rfl)) (Evs.cons (Ev.attr (Ev.ofLocal (v := .obj i) .z (by kernel_rfl) (by kernel_rfl)) hH hs hb0.nd (n := Str.ofString "symbols") (v := AV.none) (by kernel_rfl) rfl (fun _ _ => rfl)) (Evs.cons (Ev.attr (Ev.ofLocal (v := .obj i) .z (by kernel_rfl) (by kernel_rfl)) hH hm hb0.nd (n := Str.ofString "max_heap") (v := .int 100000) (by kernel_rfl) rfl (fun _ _ => rfl)) Evs.nil (fun _ => rfl)) (fun _ => rfl)) (by kernel_rfl) (fun _ => rfl) (fun _ _ => rfl) (by kernel_rfl) (by kernel_rfl) (by kernel_rfl) cells_ok) (Ev.ofLocal (v := .obj i) .z (by kernel_rfl) (by kernel_rfl)) (by rw [List.getElem?_append_left hi]; exact hH) (putF_put _ _ _) (FB.put hb0).nd (Nat.le_trans (FB.put hb0).len (by decide)) (by kernel_rfl) (fun _ _ => rfl) (SH_one hi)) ?zs0
    case zs0 =>
    have hb1 : FB (putF (fs) (Str.ofString "store") (.obj H.length)) 101 := FB.put hb0
    refine' Exs.next (H₁ := SH H i (.inst c_Emulator (putF (putF (fs) (Str.ofString "store") (.obj H.length)) (Str.ofString "x") (.obj (H.length + 4)))) (rsT H.length)) (Ex.setAttrE (C := c_Emulator) (fs := putF (fs) (Str.ofString "store") (.obj H.length)) (Ev.listNewE (k := H.length + 4) (H₂ := SH H i (.inst c_Emulator (putF (fs) (Str.ofString "store") (.obj H.length))) (rsT H.length)) (Evs.cons (ev_VOID (by kernel_rfl)) Evs.nil (fun _ => rfl)) (by decide) (by rw [SH_len]; rfl) SH_more) (Ev.ofLocal (v := .obj i) .z (by kernel_rfl) (by kernel_rfl)) (SH_at hi) (putF_put _ _ _) (FB.put hb1).nd (Nat.le_trans (FB.put hb1).len (by decide)) (by kernel_rfl) (fun _ _ => rfl) (SH_set hi)) ?zs1
    case zs1 =>
    have hb2 : FB (putF (putF (fs) (Str.ofString "store") (.obj H.length)) (Str.ofString "x") (.obj (H.length + 4))) 102 := FB.put hb1
    refine' Exs.next (H₁ := SH H i (.inst c_Emulator (putF (putF (putF (fs) (Str.ofString "store") (.obj H.length)) (Str.ofString "x") (.obj (H.length + 4))) (Str.ofString "p") (.int 0))) (rsT H.length)) (Ex.setAttrE (C := c_Emulator) (fs := putF (putF (fs) (Str.ofString "store") (.obj H.length)) (Str.ofString "x") (.obj (H.length + 4))) Ev.int (Ev.ofLocal (v := .obj i) .z (by kernel_rfl) (by kernel_rfl)) (SH_at hi) (putF_put _ _ _) (FB.put hb2).nd (Nat.le_trans (FB.put hb2).len (by decide)) (by kernel_rfl) (fun _ _ => rfl) (SH_set hi)) ?zs2
    case zs2 =>
    have hb3 : FB (putF (putF (putF (fs) (Str.ofString "store") (.obj H.length)) (Str.ofString "x") (.obj (H.length + 4))) (Str.ofString "p") (.int 0)) 103 := FB.put hb2
    refine' Exs.next (H₁ := SH H i (.inst c_Emulator (putF (putF (putF (putF (fs) (Str.ofString "store") (.obj H.length)) (Str.ofString "x") (.obj (H.length + 4))) (Str.ofString "p") (.int 0)) (Str.ofString "cp") (.int 0))) (rsT H.length)) (Ex.setAttrE (C := c_Emulator) (fs := putF (putF (putF (fs) (Str.ofString "store") (.obj H.length)) (Str.ofString "x") (.obj (H.length + 4))) (Str.ofString "p") (.int 0)) Ev.int (Ev.ofLocal (v := .obj i) .z (by kernel_rfl) (by kernel_rfl)) (SH_at hi) (putF_put _ _ _) (FB.put hb3).nd (Nat.le_trans (FB.put hb3).len (by decide)) (by kernel_rfl) (fun _ _ => rfl) (SH_set hi)) ?zs3
    case zs3 =>
    have hb4 : FB (putF (putF (putF (putF (fs) (Str.ofString "store") (.obj H.length)) (Str.ofString "x") (.obj (H.length + 4))) (Str.ofString "p") (.int 0)) (Str.ofString "cp") (.int 0)) 104 := FB.put hb3
    refine' Exs.next (H₁ := SH H i (.inst c_Emulator (putF (putF (putF (putF (putF (fs) (Str.ofString "store") (.obj H.length)) (Str.ofString "x") (.obj (H.length + 4))) (Str.ofString "p") (.int 0)) (Str.ofString "cp") (.int 0)) (Str.ofString "e") (.int (-1)))) (rsT H.length)) (Ex.setAttrE (C := c_Emulator) (fs := putF (putF (putF (putF (fs) (Str.ofString "store") (.obj H.length)) (Str.ofString "x") (.obj (H.length + 4))) (Str.ofString "p") (.int 0)) (Str.ofString "cp") (.int 0)) (Ev.neg Ev.int) (Ev.ofLocal (v := .obj i) .z (by kernel_rfl) (by kernel_rfl)) (SH_at hi) (putF_put _ _ _) (FB.put hb4).nd (Nat.le_trans (FB.put hb4).len (by decide)) (by kernel_rfl) (fun _ _ => rfl) (SH_set hi)) ?zs4
    case zs4 =>
    have hb5 : FB (putF (putF (putF (putF (putF (fs) (Str.ofString "store") (.obj H.length)) (Str.ofString "x") (.obj (H.length + 4))) (Str.ofString "p") (.int 0)) (Str.ofString "cp") (.int 0)) (Str.ofString "e") (.int (-1))) 105 := FB.put hb4
    refine' Exs.next (H₁ := SH H i (.inst c_Emulator (putF (putF (putF (putF (putF (putF (fs) (Str.ofString "store") (.obj H.length)) (Str.ofString "x") (.obj (H.length + 4))) (Str.ofString "p") (.int 0)) (Str.ofString "cp") (.int 0)) (Str.ofString "e") (.int (-1))) (Str.ofString "b") (.int (-1)))) (rsT H.length)) (Ex.setAttrE (C := c_Emulator) (fs := putF (putF (putF (putF (putF (fs) (Str.ofString "store") (.obj H.length)) (Str.ofString "x") (.obj (H.length + 4))) (Str.ofString "p") (.int 0)) (Str.ofString "cp") (.int 0)) (Str.ofString "e") (.int (-1))) (Ev.neg Ev.int) (Ev.ofLocal (v := .obj i) .z (by kernel_rfl) (by kernel_rfl)) (SH_at hi) (putF_put _ _ _) (FB.put hb5).nd (Nat.le_trans (FB.put hb5).len (by decide)) (by kernel_rfl) (fun _ _ => rfl) (SH_set hi)) ?zs5
    case zs5 =>
    have hb6 : FB (putF (putF (putF (putF (putF (putF (fs) (Str.ofString "store") (.obj H.length)) (Str.ofString "x") (.obj (H.length + 4))) (Str.ofString "p") (.int 0)) (Str.ofString "cp") (.int 0)) (Str.ofString "e") (.int (-1))) (Str.ofString "b") (.int (-1))) 106 := FB.put hb5
    refine' Exs.next (H₁ := SH H i (.inst c_Emulator (putF (putF (putF (putF (putF (putF (putF (fs) (Str.ofString "store") (.obj H.length)) (Str.ofString "x") (.obj (H.length + 4))) (Str.ofString "p") (.int 0)) (Str.ofString "cp") (.int 0)) (Str.ofString "e") (.int (-1))) (Str.ofString "b") (.int (-1))) (Str.ofString "b0") (.int (-1)))) (rsT H.length)) (Ex.setAttrE (C := c_Emulator) (fs := putF (putF (putF (putF (putF (putF (fs) (Str.ofString "store") (.obj H.length)) (Str.ofString "x") (.obj (H.length + 4))) (Str.ofString "p") (.int 0)) (Str.ofString "cp") (.int 0)) (Str.ofString "e") (.int (-1))) (Str.ofString "b") (.int (-1))) (Ev.neg Ev.int) (Ev.ofLocal (v := .obj i) .z (by kernel_rfl) (by kernel_rfl)) (SH_at hi) (putF_put _ _ _) (FB.put hb6).nd (Nat.le_trans (FB.put hb6).len (by decide)) (by kernel_rfl) (fun _ _ => rfl) (SH_set hi)) ?zs6
    case zs6 =>
    have hb7 : FB (putF (putF (putF (putF (putF (putF (putF (fs) (Str.ofString "store") (.obj H.length)) (Str.ofString "x") (.obj (H.length + 4))) (Str.ofString "p") (.int 0)) (Str.ofString "cp") (.int 0)) (Str.ofString "e") (.int (-1))) (Str.ofString "b") (.int (-1))) (Str.ofString "b0") (.int (-1))) 107 := FB.put hb6
    refine' Exs.next (H₁ := SH H i (.inst c_Emulator (putF (putF (putF (putF (putF (putF (putF (putF (fs) (Str.ofString "store") (.obj H.length)) (Str.ofString "x") (.obj (H.length + 4))) (Str.ofString "p") (.int 0)) (Str.ofString "cp") (.int 0)) (Str.ofString "e") (.int (-1))) (Str.ofString "b") (.int (-1))) (Str.ofString "b0") (.int (-1))) (Str.ofString "mode") (.str "read"))) (rsT H.length)) (Ex.setAttrE (C := c_Emulator) (fs := putF (putF (putF (putF (putF (putF (putF (fs) (Str.ofString "store") (.obj H.length)) (Str.ofString "x") (.obj (H.length + 4))) (Str.ofString "p") (.int 0)) (Str.ofString "cp") (.int 0)) (Str.ofString "e") (.int (-1))) (Str.ofString "b") (.int (-1))) (Str.ofString "b0") (.int (-1))) (ev_READ (by kernel_rfl)) (Ev.ofLocal (v := .obj i) .z (by kernel_rfl) (by kernel_rfl)) (SH_at hi) (putF_put _ _ _) (FB.put hb7).nd (Nat.le_trans (FB.put hb7).len (by decide)) (by kernel_rfl) (fun _ _ => rfl) (SH_set hi)) ?zs7
    case zs7 =>
    have hb8 : FB (putF (putF (putF (putF (putF (putF (putF (putF (fs) (Str.ofString "store") (.obj H.length)) (Str.ofString "x") (.obj (H.length + 4))) (Str.ofString "p") (.int 0)) (Str.ofString "cp") (.int 0)) (Str.ofString "e") (.int (-1))) (Str.ofString "b") (.int (-1))) (Str.ofString "b0") (.int (-1))) (Str.ofString "mode") (.str "read")) 108 := FB.put hb7
    refine' Exs.next (H₁ := SH H i (.inst c_Emulator (putF (putF (putF (putF (putF (putF (putF (putF (putF (fs) (Str.ofString "store") (.obj H.length)) (Str.ofString "x") (.obj (H.length + 4))) (Str.ofString "p") (.int 0)) (Str.ofString "cp") (.int 0)) (Str.ofString "e") (.int (-1))) (Str.ofString "b") (.int (-1))) (Str.ofString "b0") (.int (-1))) (Str.ofString "mode") (.str "read")) (Str.ofString "s") (.int 0))) (rsT H.length)) (Ex.setAttrE (C := c_Emulator) (fs := putF (putF (putF (putF (putF (putF (putF (putF (fs) (Str.ofString "store") (.obj H.length)) (Str.ofString "x") (.obj (H.length + 4))) (Str.ofString "p") (.int 0)) (Str.ofString "cp") (.int 0)) (Str.ofString "e") (.int (-1))) (Str.ofString "b") (.int (-1))) (Str.ofString "b0") (.int (-1))) (Str.ofString "mode") (.str "read")) Ev.int (Ev.ofLocal (v := .obj i) .z (by kernel_rfl) (by kernel_rfl)) (SH_at hi) (putF_put _ _ _) (FB.put hb8).nd (Nat.le_trans (FB.put hb8).len (by decide)) (by kernel_rfl) (fun _ _ => rfl) (SH_set hi)) ?zs8
    case zs8 =>
    have hb9 : FB (putF (putF (putF (putF (putF (putF (putF (putF (putF (fs) (Str.ofString "store") (.obj H.length)) (Str.ofString "x") (.obj (H.length + 4))) (Str.ofString "p") (.int 0)) (Str.ofString "cp") (.int 0)) (Str.ofString "e") (.int (-1))) (Str.ofString "b") (.int (-1))) (Str.ofString "b0") (.int (-1))) (Str.ofString "mode") (.str "read")) (Str.ofString "s") (.int 0)) 109 := FB.put hb8
    refine' Exs.next (H₁ := SH H i (.inst c_Emulator (putF (putF (putF (putF (putF (putF (putF (putF (putF (putF (fs) (Str.ofString "store") (.obj H.length)) (Str.ofString "x") (.obj (H.length + 4))) (Str.ofString "p") (.int 0)) (Str.ofString "cp") (.int 0)) (Str.ofString "e") (.int (-1))) (Str.ofString "b") (.int (-1))) (Str.ofString "b0") (.int (-1))) (Str.ofString "mode") (.str "read")) (Str.ofString "s") (.int 0)) (Str.ofString "guard") (voidV))) (rsT H.length)) (Ex.setAttrE (C := c_Emulator) (fs := putF (putF (putF (putF (putF (putF (putF (putF (putF (fs) (Str.ofString "store") (.obj H.length)) (Str.ofString "x") (.obj (H.length + 4))) (Str.ofString "p") (.int 0)) (Str.ofString "cp") (.int 0)) (Str.ofString "e") (.int (-1))) (Str.ofString "b") (.int (-1))) (Str.ofString "b0") (.int (-1))) (Str.ofString "mode") (.str "read")) (Str.ofString "s") (.int 0)) (ev_VOID (by kernel_rfl)) (Ev.ofLocal (v := .obj i) .z (by kernel_rfl) (by kernel_rfl)) (SH_at hi) (putF_put _ _ _) (FB.put hb9).nd (Nat.le_trans (FB.put hb9).len (by decide)) (by kernel_rfl) (fun _ _ => rfl) (SH_set hi)) ?zs9
    case zs9 =>
    have hb10 : FB (putF (putF (putF (putF (putF (putF (putF (putF (putF (putF (fs) (Str.ofString "store") (.obj H.length)) (Str.ofString "x") (.obj (H.length + 4))) (Str.ofString "p") (.int 0)) (Str.ofString "cp") (.int 0)) (Str.ofString "e") (.int (-1))) (Str.ofString "b") (.int (-1))) (Str.ofString "b0") (.int (-1))) (Str.ofString "mode") (.str "read")) (Str.ofString "s") (.int 0)) (Str.ofString "guard") (voidV)) 110 := FB.put hb9
    refine' Exs.next (H₁ := SH H i (.inst c_Emulator (putF (putF (putF (putF (putF (putF (putF (putF (putF (putF (putF (fs) (Str.ofString "store") (.obj H.length)) (Str.ofString "x") (.obj (H.length + 4))) (Str.ofString "p") (.int 0)) (Str.ofString "cp") (.int 0)) (Str.ofString "e") (.int (-1))) (Str.ofString "b") (.int (-1))) (Str.ofString "b0") (.int (-1))) (Str.ofString "mode") (.str "read")) (Str.ofString "s") (.int 0)) (Str.ofString "guard") (voidV)) (Str.ofString "roots") (.any))) (rsT H.length)) (Ex.setAttrE (C := c_Emulator) (fs := putF (putF (putF (putF (putF (putF (putF (putF (putF (putF (fs) (Str.ofString "store") (.obj H.length)) (Str.ofString "x") (.obj (H.length + 4))) (Str.ofString "p") (.int 0)) (Str.ofString "cp") (.int 0)) (Str.ofString "e") (.int (-1))) (Str.ofString "b") (.int (-1))) (Str.ofString "b0") (.int (-1))) (Str.ofString "mode") (.str "read")) (Str.ofString "s") (.int 0)) (Str.ofString "guard") (voidV)) (Ev.weak (Ev.flist Evs.nil (by decide))) (Ev.ofLocal (v := .obj i) .z (by kernel_rfl) (by kernel_rfl)) (SH_at hi) (putF_put _ _ _) (FB.put hb10).nd (Nat.le_trans (FB.put hb10).len (by decide)) (by kernel_rfl) (fun _ _ => rfl) (SH_set hi)) ?zs10
    case zs10 =>
    have hb11 : FB (putF (putF (putF (putF (putF (putF (putF (putF (putF (putF (putF (fs) (Str.ofString "store") (.obj H.length)) (Str.ofString "x") (.obj (H.length + 4))) (Str.ofString "p") (.int 0)) (Str.ofString "cp") (.int 0)) (Str.ofString "e") (.int (-1))) (Str.ofString "b") (.int (-1))) (Str.ofString "b0") (.int (-1))) (Str.ofString "mode") (.str "read")) (Str.ofString "s") (.int 0)) (Str.ofString "guard") (voidV)) (Str.ofString "roots") (.any)) 111 := FB.put hb10
    refine' Exs.next (H₁ := SH H i (.inst c_Emulator (putF (putF (putF (putF (putF (putF (putF (putF (putF (putF (putF (putF (fs) (Str.ofString "store") (.obj H.length)) (Str.ofString "x") (.obj (H.length + 4))) (Str.ofString "p") (.int 0)) (Str.ofString "cp") (.int 0)) (Str.ofString "e") (.int (-1))) (Str.ofString "b") (.int (-1))) (Str.ofString "b0") (.int (-1))) (Str.ofString "mode") (.str "read")) (Str.ofString "s") (.int 0)) (Str.ofString "guard") (voidV)) (Str.ofString "roots") (.any)) (Str.ofString "bags") (.any))) (rsT H.length)) (Ex.setAttrE (C := c_Emulator) (fs := putF (putF (putF (putF (putF (putF (putF (putF (putF (putF (putF (fs) (Str.ofString "store") (.obj H.length)) (Str.ofString "x") (.obj (H.length + 4))) (Str.ofString "p") (.int 0)) (Str.ofString "cp") (.int 0)) (Str.ofString "e") (.int (-1))) (Str.ofString "b") (.int (-1))) (Str.ofString "b0") (.int (-1))) (Str.ofString "mode") (.str "read")) (Str.ofString "s") (.int 0)) (Str.ofString "guard") (voidV)) (Str.ofString "roots") (.any)) Ev.dictAny (Ev.ofLocal (v := .obj i) .z (by kernel_rfl) (by kernel_rfl)) (SH_at hi) (putF_put _ _ _) (FB.put hb11).nd (Nat.le_trans (FB.put hb11).len (by decide)) (by kernel_rfl) (fun _ _ => rfl) (SH_set hi)) ?zs11
    case zs11 =>
    have hb12 : FB (putF (putF (putF (putF (putF (putF (putF (putF (putF (putF (putF (putF (fs) (Str.ofString "store") (.obj H.length)) (Str.ofString "x") (.obj (H.length + 4))) (Str.ofString "p") (.int 0)) (Str.ofString "cp") (.int 0)) (Str.ofString "e") (.int (-1))) (Str.ofString "b") (.int (-1))) (Str.ofString "b0") (.int (-1))) (Str.ofString "mode") (.str "read")) (Str.ofString "s") (.int 0)) (Str.ofString "guard") (voidV)) (Str.ofString "roots") (.any)) (Str.ofString "bags") (.any)) 112 := FB.put hb11
    refine' Exs.next (H₁ := SH H i (.inst c_Emulator (putF (putF (putF (putF (putF (putF (putF (putF (putF (putF (putF (putF (putF (fs) (Str.ofString "store") (.obj H.length)) (Str.ofString "x") (.obj (H.length + 4))) (Str.ofString "p") (.int 0)) (Str.ofString "cp") (.int 0)) (Str.ofString "e") (.int (-1))) (Str.ofString "b") (.int (-1))) (Str.ofString "b0") (.int (-1))) (Str.ofString "mode") (.str "read")) (Str.ofString "s") (.int 0)) (Str.ofString "guard") (voidV)) (Str.ofString "roots") (.any)) (Str.ofString "bags") (.any)) (Str.ofString "collect_wanted") (.bool false))) (rsT H.length)) (Ex.setAttrE (C := c_Emulator) (fs := putF (putF (putF (putF (putF (putF (putF (putF (putF (putF (putF (putF (fs) (Str.ofString "store") (.obj H.length)) (Str.ofString "x") (.obj (H.length + 4))) (Str.ofString "p") (.int 0)) (Str.ofString "cp") (.int 0)) (Str.ofString "e") (.int (-1))) (Str.ofString "b") (.int (-1))) (Str.ofString "b0") (.int (-1))) (Str.ofString "mode") (.str "read")) (Str.ofString "s") (.int 0)) (Str.ofString "guard") (voidV)) (Str.ofString "roots") (.any)) (Str.ofString "bags") (.any)) Ev.bool (Ev.ofLocal (v := .obj i) .z (by kernel_rfl) (by kernel_rfl)) (SH_at hi) (putF_put _ _ _) (FB.put hb12).nd (Nat.le_trans (FB.put hb12).len (by decide)) (by kernel_rfl) (fun _ _ => rfl) (SH_set hi)) ?zs12
    case zs12 =>
    have hb13 : FB (putF (putF (putF (putF (putF (putF (putF (putF (putF (putF (putF (putF (putF (fs) (Str.ofString "store") (.obj H.length)) (Str.ofString "x") (.obj (H.length + 4))) (Str.ofString "p") (.int 0)) (Str.ofString "cp") (.int 0)) (Str.ofString "e") (.int (-1))) (Str.ofString "b") (.int (-1))) (Str.ofString "b0") (.int (-1))) (Str.ofString "mode") (.str "read")) (Str.ofString "s") (.int 0)) (Str.ofString "guard") (voidV)) (Str.ofString "roots") (.any)) (Str.ofString "bags") (.any)) (Str.ofString "collect_wanted") (.bool false)) 113 := FB.put hb12
    exact Exs.nil
theorem rsF_nm {fs : List (Str × AV)} {n : Nat} {N : Nat} (h : FB fs N) : FB (rsF fs n) (N + 13) := FB.put (FB.put (FB.put (FB.put (FB.put (FB.put (FB.put (FB.put (FB.put (FB.put (FB.put (FB.put (FB.put h))))))))))))
theorem clear_ok {b : Bool} {d : Nat} {H : Hp} {i : Nat} {fs : List (Str × AV)} (hH : H[i]? = some (.inst c_Emulator fs)) (hs : (Str.ofString "symbols", AV.none) ∈ fs) (hm : (Str.ofString "max_heap", AV.int 100000) ∈ fs) (hf : FB fs 80) (hn : Str.ofString "reset" ∉ fs.map (·.1)) :
    Cl S.W b (d + 5) a_Emulator_clear [.obj i] H .none (SH H i (.inst c_Emulator (clF fs H.length)) (rsT H.length)) := by
  have hi : i < H.length := (List.getElem?_eq_some_iff.mp hH).1
  refine' Cl.ofBody (W := S.W) (ps := [Str.ofString "self"]) (ls := []) (fl := .next) (by exact rfl) (by kernel_rfl) ?bi (by kernel_rfl) rfl (by decide +kernel) (by decide +kernel) rfl rfl rfl ?h rfl
  case bi =>
    intro us hu
    obtain ⟨u0, rfl⟩ := usIs1 hu
    rfl
  case h =>
    refine' Exs.next (Ex.expr (Ev.callMeth0 (Ev.ofLocal (v := .obj i) .z (by kernel_rfl) (by kernel_rfl)) hH hn (mt_Emulator_reset S.w.params) (fun _ => ⟨_, rfl⟩) (reset_ok hH hs hm ⟨hf.nd, Nat.le_trans hf.len (by decide)⟩)) (fun _ q => by unfold interactive; rw [q]; rfl) (fun _ _ => rfl)) ?zc
    case zc =>
    have hb0 := rsF_nm (n := H.length) hf
    refine' Exs.next (H₁ := SH H i (.inst c_Emulator (putF (rsF fs H.length) (Str.ofString "p") (.int 1))) (rsT H.length)) (Ex.setAttrE (C := c_Emulator) (fs := rsF fs H.length) (ev_HALT_ADDRESS (by kernel_rfl)) (Ev.ofLocal (v := .obj i) .z (by kernel_rfl) (by kernel_rfl)) (SH_at hi) (putF_put _ _ _) (FB.put hb0).nd (Nat.le_trans (FB.put hb0).len (by decide)) (by kernel_rfl) (fun _ _ => rfl) (SH_set hi)) ?zs0
    case zs0 =>
    have hb1 : FB (putF (rsF fs H.length) (Str.ofString "p") (.int 1)) 94 := FB.put hb0
    refine' Exs.next (H₁ := SH H i (.inst c_Emulator (putF (putF (rsF fs H.length) (Str.ofString "p") (.int 1)) (Str.ofString "cp") (.int 1))) (rsT H.length)) (Ex.setAttrE (C := c_Emulator) (fs := putF (rsF fs H.length) (Str.ofString "p") (.int 1)) (ev_HALT_ADDRESS (by kernel_rfl)) (Ev.ofLocal (v := .obj i) .z (by kernel_rfl) (by kernel_rfl)) (SH_at hi) (putF_put _ _ _) (FB.put hb1).nd (Nat.le_trans (FB.put hb1).len (by decide)) (by kernel_rfl) (fun _ _ => rfl) (SH_set hi)) ?zs1
    case zs1 =>
    have hb2 : FB (putF (putF (rsF fs H.length) (Str.ofString "p") (.int 1)) (Str.ofString "cp") (.int 1)) 95 := FB.put hb1
    refine' Exs.next (H₁ := SH H i (.inst c_Emulator (putF (putF (putF (rsF fs H.length) (Str.ofString "p") (.int 1)) (Str.ofString "cp") (.int 1)) (Str.ofString "steps") (.int 0))) (rsT H.length)) (Ex.setAttrE (C := c_Emulator) (fs := putF (putF (rsF fs H.length) (Str.ofString "p") (.int 1)) (Str.ofString "cp") (.int 1)) Ev.int (Ev.ofLocal (v := .obj i) .z (by kernel_rfl) (by kernel_rfl)) (SH_at hi) (putF_put _ _ _) (FB.put hb2).nd (Nat.le_trans (FB.put hb2).len (by decide)) (by kernel_rfl) (fun _ _ => rfl) (SH_set hi)) ?zs2
    case zs2 =>
    have hb3 : FB (putF (putF (putF (rsF fs H.length) (Str.ofString "p") (.int 1)) (Str.ofString "cp") (.int 1)) (Str.ofString "steps") (.int 0)) 96 := FB.put hb2
    refine' Exs.next (H₁ := SH H i (.inst c_Emulator (putF (putF (putF (putF (rsF fs H.length) (Str.ofString "p") (.int 1)) (Str.ofString "cp") (.int 1)) (Str.ofString "steps") (.int 0)) (Str.ofString "halted") (.bool true))) (rsT H.length)) (Ex.setAttrE (C := c_Emulator) (fs := putF (putF (putF (rsF fs H.length) (Str.ofString "p") (.int 1)) (Str.ofString "cp") (.int 1)) (Str.ofString "steps") (.int 0)) Ev.bool (Ev.ofLocal (v := .obj i) .z (by kernel_rfl) (by kernel_rfl)) (SH_at hi) (putF_put _ _ _) (FB.put hb3).nd (Nat.le_trans (FB.put hb3).len (by decide)) (by kernel_rfl) (fun _ _ => rfl) (SH_set hi)) ?zs3
    case zs3 =>
    have hb4 : FB (putF (putF (putF (putF (rsF fs H.length) (Str.ofString "p") (.int 1)) (Str.ofString "cp") (.int 1)) (Str.ofString "steps") (.int 0)) (Str.ofString "halted") (.bool true)) 97 := FB.put hb3
    refine' Exs.next (H₁ := SH H i (.inst c_Emulator (putF (putF (putF (putF (putF (rsF fs H.length) (Str.ofString "p") (.int 1)) (Str.ofString "cp") (.int 1)) (Str.ofString "steps") (.int 0)) (Str.ofString "halted") (.bool true)) (Str.ofString "failed") (.bool true))) (rsT H.length)) (Ex.setAttrE (C := c_Emulator) (fs := putF (putF (putF (putF (rsF fs H.length) (Str.ofString "p") (.int 1)) (Str.ofString "cp") (.int 1)) (Str.ofString "steps") (.int 0)) (Str.ofString "halted") (.bool true)) Ev.bool (Ev.ofLocal (v := .obj i) .z (by kernel_rfl) (by kernel_rfl)) (SH_at hi) (putF_put _ _ _) (FB.put hb4).nd (Nat.le_trans (FB.put hb4).len (by decide)) (by kernel_rfl) (fun _ _ => rfl) (SH_set hi)) ?zs4
    case zs4 =>
    have hb5 : FB (putF (putF (putF (putF (putF (rsF fs H.length) (Str.ofString "p") (.int 1)) (Str.ofString "cp") (.int 1)) (Str.ofString "steps") (.int 0)) (Str.ofString "halted") (.bool true)) (Str.ofString "failed") (.bool true)) 98 := FB.put hb4
    exact Exs.nil
end
end
section
noncomputable def mtA : List (Str × Value) := [(Str.ofString "get_variable", Value.ref 600), (Str.ofString "get_value", Value.ref 607), (Str.ofString "get_constant", Value.ref 614), (Str.ofString "get_list", Value.ref 621), (Str.ofString "get_structure", Value.ref 628), (Str.ofString "unify_variable", Value.ref 635), (Str.ofString "unify_value", Value.ref 642), (Str.ofString "unify_local_value", Value.ref 649), (Str.ofString "unify_constant", Value.ref 656), (Str.ofString "unify_void", Value.ref 663), (Str.ofString "put_variable", Value.ref 677), (Str.ofString "put_void", Value.ref 684), (Str.ofString "put_value", Value.ref 691), (Str.ofString "put_unsafe_value", Value.ref 698), (Str.ofString "put_constant", Value.ref 705), (Str.ofString "put_list", Value.ref 712), (Str.ofString "put_structure", Value.ref 719)]
noncomputable def mtB : List (Str × Value) := [(Str.ofString "set_variable", Value.ref 726), (Str.ofString "set_value", Value.ref 733), (Str.ofString "set_local_value", Value.ref 740), (Str.ofString "set_constant", Value.ref 747), (Str.ofString "set_void", Value.ref 754)]
noncomputable def ctL : List (Str × Value) := [(Str.ofString "call", Value.ref 768), (Str.ofString "execute", Value.ref 775), (Str.ofString "proceed", Value.ref 782), (Str.ofString "allocate", Value.ref 789), (Str.ofString "deallocate", Value.ref 796), (Str.ofString "neck_cut", Value.ref 803), (Str.ofString "get_level", Value.ref 810), (Str.ofString "mark", Value.ref 817), (Str.ofString "cut_to", Value.ref 824), (Str.ofString "fail", Value.ref 831), (Str.ofString "halt", Value.ref 838), (Str.ofString "try", Value.ref 845), (Str.ofString "retry", Value.ref 852), (Str.ofString "trust", Value.ref 859), (Str.ofString "switch_on_term", Value.ref 866), (Str.ofString "switch_on_constant", Value.ref 873), (Str.ofString "switch_on_structure", Value.ref 880)]
noncomputable def vals (l : List (Str × Value)) : List (Str × AV) := l.map fun z => (z.1, AV.val z.2)
noncomputable def tbl : List (Str × AV) := vals (mtA ++ mtB ++ ctL)
noncomputable def kStr (e : PySem.Expr) : Option Str := match e with
  | .Constant (.str s) _ _ => some s
  | _ => none
noncomputable def kNam (e : PySem.Expr) : Option Str := match e with
  | .Name y _ => some y
  | _ => none
theorem kStr_eq {e : PySem.Expr} {s : Str} (h : kStr e = some s) : ∃ a b, e = .Constant (.str s) a b := by
  unfold kStr at h
  split at h
  · obtain rfl := Option.some.inj h; exact ⟨_, _, rfl⟩
  · cases h
theorem kNam_eq {e : PySem.Expr} {s : Str} (h : kNam e = some s) : ∃ a, e = .Name s a := by
  unfold kNam at h
  split at h
  · obtain rfl := Option.some.inj h; exact ⟨_, rfl⟩
  · cases h
noncomputable def kvOk (K : Frag) (sc : Scope) : List (PySem.Expr × PySem.Expr) → List (Str × Value) → Bool
  | [], [] => true
  | kv :: kvs, z :: l => (kStr kv.1 == some z.1 && (kNam kv.2).any fun y => sc.names.lookup y == some .globalImplicit && (nsIn K mainGlobals y == some (some z.2) && !(y == ("__debug__" : Str)))) && kvOk K sc kvs l
  | _, _ => false
section
variable {W : Wd} {b : Bool} {d : Nat} {sc : Scope} {fr fr' : Fr2} {H H₁ H₂ : Hp} {v : AV} {p : Pos} {fl : Fl}
theorem KVs.of {kvs : List (PySem.Expr × PySem.Expr)} : ∀ {l : List (Str × Value)}, kvOk W.K sc kvs l = true → KVs W b d sc fr kvs (vals l) := by
  induction kvs with
  | nil => intro l h; cases l with | nil => exact .nil | cons _ _ => cases h
  | cons kv kvs ih =>
    intro l h
    cases l with
    | nil => cases h
    | cons z l =>
      obtain ⟨k, v⟩ := kv
      unfold kvOk at h
      obtain ⟨h, h5⟩ := Bool.and_eq_true_iff.mp h
      obtain ⟨h1, h2⟩ := Bool.and_eq_true_iff.mp h
      obtain ⟨a, q, rfl⟩ := kStr_eq (beq_iff_eq.mp h1)
      cases hn : kNam v with
      | none => rw [hn] at h2; cases h2
      | some y =>
      rw [hn] at h2
      have h2 : (sc.names.lookup y == some .globalImplicit && (nsIn W.K mainGlobals y == some (some z.2) && !(y == ("__debug__" : Str)))) = true := h2
      obtain ⟨p, rfl⟩ := kNam_eq hn
      obtain ⟨h2, h3⟩ := Bool.and_eq_true_iff.mp h2
      obtain ⟨h3, h4⟩ := Bool.and_eq_true_iff.mp h3
      exact .cons (fun H => Ev.str) (fun H => Ev.ofGlobal (beq_iff_eq.mp h3) (fun _ => .val _) (beq_iff_eq.mp h2) (by simpa using h4)) (ih h5)
theorem Ev.tab17 {keys : List (Option PySem.Expr)} {values : List PySem.Expr} {kvs : List (PySem.Expr × PySem.Expr)} {l : List (Str × Value)} (hk : keys = kvs.map fun z => some z.1) (hv : values = kvs.map (·.2)) (hl : kvs.length = 17) (ok : kvOk W.K sc kvs l = true) (hL : mergedV [] (vals l) = vals l) :
    Ev W b d sc (.Dict keys values p) fr H (.obj H.length) (H ++ [.sdict (vals l)]) := by
  subst hk hv
  have e1 : kvs = kvs.take 16 ++ [kvs[16]] := by
    have e0 : kvs.drop 16 = kvs[16] :: kvs.drop 17 := List.drop_eq_getElem_cons (by omega)
    have e9 : kvs.drop 17 = [] := List.drop_eq_nil_of_le (by omega)
    rw [e9] at e0
    rw [← e0, List.take_append_drop]
  have k := KVs.of (W := W) (b := b) (d := d) (fr := fr) ok
  rw [e1] at k ⊢
  exact Ev.dict17 (by rw [List.length_take]; omega) k hL
theorem Ev.tab24 {keys : List (Option PySem.Expr)} {values : List PySem.Expr} {kvs : List (PySem.Expr × PySem.Expr)} {l lB : List (Str × Value)} (hk : keys = kvs.map fun z => some z.1) (hv : values = kvs.map (·.2)) (h17 : 17 < kvs.length) (h32 : kvs.length ≤ 32) (ok : kvOk W.K sc (kvs.take 17) l = true) (okB : kvOk W.K sc (kvs.drop 17) lB = true)
    (hL : mergedV [] (vals l) = vals l) (hLB : mergedV [] (vals lB) = vals lB) (h2 : mergedV (vals l) (vals lB) = vals (l ++ lB)) (hne : vals l ≠ []) :
    Ev W b d sc (.Dict keys values p) fr H (.obj H.length) (H ++ [.sdict (vals (l ++ lB)), .sdict (vals lB)]) := by
  subst hk hv
  have e0 : kvs.drop 16 = kvs[16] :: kvs.drop 17 := List.drop_eq_getElem_cons (by omega)
  have e1 : kvs = kvs.take 16 ++ kvs[16] :: kvs.drop 17 := by rw [← e0, List.take_append_drop]
  have e2 : kvs.take 17 = kvs.take 16 ++ [kvs[16]] := by rw [List.take_add_one, List.getElem?_eq_getElem (by omega)]; rfl
  have k := KVs.of (W := W) (b := b) (d := d) (fr := fr) ok
  have kB := KVs.of (W := W) (b := b) (d := d) (fr := fr) okB
  rw [e2] at k
  have q := Ev.dict24 (L := vals (l ++ lB)) (LB := vals lB) (H := H) (p := p) (by rw [List.length_take]; omega) k kB (fun z => by have := congrArg List.length z; rw [List.length_drop, List.length_nil] at this; omega) (by rw [List.length_drop]; omega) (by rw [hL]; exact hne) (by rw [hL, hLB]; exact h2) hLB
  rw [← e1] at q
  exact q
theorem Ev.callFn0 {f : Str} {np : Pos} {fa : Addr} (h0 : Ev W b (d + 1) sc (.Name f np) fr H (.val (.ref fa)) H) (hk : keepIn W.K (.ref fa) = true) (h2 : Cl W b (d + 1) fa [] H v H₂) : Ev W b (d + 1) sc (.Call (.Name f np) [] [] p) fr H v H₂ := by
  intro c O s m x A F Q E h
  refine wpAny_Call_ofName (h0 c O s m x A F _ _ fun u h' t' x' A' e' r' => ?_)
  first | obtain rfl := VR.v r' | obtain ⟨_, rfl⟩ := VR.i r' | obtain rfl := VR.t r' | obtain rfl := VR.n r' | obtain ⟨_, rfl⟩ := VR.s r' | cases r'
  refine callWith_K0 (K := W.K) (O.X.keeps A'.F.keep) hk ?_
  refine wpAny_call ?_
  exact h2 sc c O { s with heap := h', toks := t' } m x' A' [] .nil _ fun u h3 t3 x3 A3 e3 r3 => h _ _ _ x3 A3 (e'.trans e3) r3
theorem SH_last {T : Hp} {O O' : MO} : SH (H ++ [O]) H.length O' T = H ++ O' :: T := by unfold SH; rw [setLast, List.append_assoc]; rfl
theorem SH_mid {T T' : Hp} {O O' : MO} : SH (H ++ O :: T) H.length O' T' = H ++ O' :: (T ++ T') := by
  unfold SH
  rw [List.set_append_right _ _ (Nat.le_refl _), Nat.sub_self, List.set_cons_zero, List.append_assoc]; rfl
end
section
variable {S : St0}
noncomputable abbrev fs5 (kc : Nat) : List (Str × AV) := [(Str.ofString "symbols", AV.none), (Str.ofString "code", .obj kc), (Str.ofString "max_heap", .int 100000), (Str.ofString "occurs", .bool true), (Str.ofString "max_bits", .int 4096)]
theorem fs5_nd (kc : Nat) : FB (fs5 kc) 5 := ⟨by show [Str.ofString "symbols", Str.ofString "code", Str.ofString "max_heap", Str.ofString "occurs", Str.ofString "max_bits"].Nodup; decide +kernel, Nat.le_refl _⟩
theorem areas_ok {b : Bool} {d : Nat} {H : Hp} {kc : Nat} : Cl S.W b (d + 5) a_Areas___init__ [.obj H.length, .none, .obj kc, .int 100000, .bool true, .int 4096] (H ++ [.inst c_Emulator []]) .none (H ++ (.inst c_Emulator (rsF (fs5 kc) (H.length + 1)) :: rsT (H.length + 1))) := by
  refine' Cl.ofBodyD (W := S.W) (args' := [.obj H.length, .none, .obj kc, .int 100000, .bool true, .int 4096]) (ps := [Str.ofString "self", Str.ofString "symbols", Str.ofString "code", Str.ofString "max_heap", Str.ofString "occurs", Str.ofString "max_bits"]) (ls := []) (fl := .next) (by exact rfl) (by kernel_rfl) ?bi (by kernel_rfl) rfl (by decide +kernel) (by decide +kernel) rfl rfl rfl ?h rfl
  case bi =>
    intro s x us hu X
    obtain ⟨_, _, rfl, r0, hu⟩ := VRs.cc hu
    obtain ⟨_, _, rfl, r1, hu⟩ := VRs.cc hu
    obtain ⟨_, _, rfl, r2, hu⟩ := VRs.cc hu
    obtain ⟨_, _, rfl, r3, hu⟩ := VRs.cc hu
    obtain ⟨_, _, rfl, r4, hu⟩ := VRs.cc hu
    obtain ⟨_, _, rfl, r5, hu⟩ := VRs.cc hu
    obtain rfl := VRs.zz hu
    exact ⟨_, .cons r0 (.cons r1 (.cons r2 (.cons r3 (.cons r4 (.cons r5 .nil))))), binds_K X rfl (o := ko_390 S.w.params) rfl rfl rfl rfl⟩
  case h =>
    have hb0 : FB [] 0 := ⟨List.nodup_nil, Nat.le_refl _⟩
    refine' Exs.next (H₁ := H ++ [.inst c_Emulator (putF ([]) (Str.ofString "symbols") (AV.none))]) (Ex.setAttrE (C := c_Emulator) (fs := []) (Ev.ofLocal (v := AV.none) (.s .z) (by kernel_rfl) (by kernel_rfl)) (Ev.ofLocal (v := .obj H.length) .z (by kernel_rfl) (by kernel_rfl)) (at_app _ _ 0) (putF_put _ _ _) (FB.put hb0).nd (Nat.le_trans (FB.put hb0).len (by decide)) (by kernel_rfl) (fun _ _ => rfl) (set_app _ _ 0 _)) ?zs0
    case zs0 =>
    have hb1 : FB (putF ([]) (Str.ofString "symbols") (AV.none)) 1 := FB.put hb0
    refine' Exs.next (H₁ := H ++ [.inst c_Emulator (putF (putF ([]) (Str.ofString "symbols") (AV.none)) (Str.ofString "code") (.obj kc))]) (Ex.setAttrE (C := c_Emulator) (fs := putF ([]) (Str.ofString "symbols") (AV.none)) (Ev.ofLocal (v := .obj kc) (.s (.s .z)) (by kernel_rfl) (by kernel_rfl)) (Ev.ofLocal (v := .obj H.length) .z (by kernel_rfl) (by kernel_rfl)) (at_app _ _ 0) (putF_put _ _ _) (FB.put hb1).nd (Nat.le_trans (FB.put hb1).len (by decide)) (by kernel_rfl) (fun _ _ => rfl) (set_app _ _ 0 _)) ?zs1
    case zs1 =>
    have hb2 : FB (putF (putF ([]) (Str.ofString "symbols") (AV.none)) (Str.ofString "code") (.obj kc)) 2 := FB.put hb1
    refine' Exs.next (H₁ := H ++ [.inst c_Emulator (putF (putF (putF ([]) (Str.ofString "symbols") (AV.none)) (Str.ofString "code") (.obj kc)) (Str.ofString "max_heap") (.int 100000))]) (Ex.setAttrE (C := c_Emulator) (fs := putF (putF ([]) (Str.ofString "symbols") (AV.none)) (Str.ofString "code") (.obj kc)) (Ev.ofLocal (v := .int 100000) (.s (.s (.s .z))) (by kernel_rfl) (by kernel_rfl)) (Ev.ofLocal (v := .obj H.length) .z (by kernel_rfl) (by kernel_rfl)) (at_app _ _ 0) (putF_put _ _ _) (FB.put hb2).nd (Nat.le_trans (FB.put hb2).len (by decide)) (by kernel_rfl) (fun _ _ => rfl) (set_app _ _ 0 _)) ?zs2
    case zs2 =>
    have hb3 : FB (putF (putF (putF ([]) (Str.ofString "symbols") (AV.none)) (Str.ofString "code") (.obj kc)) (Str.ofString "max_heap") (.int 100000)) 3 := FB.put hb2
    refine' Exs.next (H₁ := H ++ [.inst c_Emulator (putF (putF (putF (putF ([]) (Str.ofString "symbols") (AV.none)) (Str.ofString "code") (.obj kc)) (Str.ofString "max_heap") (.int 100000)) (Str.ofString "occurs") (.bool true))]) (Ex.setAttrE (C := c_Emulator) (fs := putF (putF (putF ([]) (Str.ofString "symbols") (AV.none)) (Str.ofString "code") (.obj kc)) (Str.ofString "max_heap") (.int 100000)) (Ev.ofLocal (v := .bool true) (.s (.s (.s (.s .z)))) (by kernel_rfl) (by kernel_rfl)) (Ev.ofLocal (v := .obj H.length) .z (by kernel_rfl) (by kernel_rfl)) (at_app _ _ 0) (putF_put _ _ _) (FB.put hb3).nd (Nat.le_trans (FB.put hb3).len (by decide)) (by kernel_rfl) (fun _ _ => rfl) (set_app _ _ 0 _)) ?zs3
    case zs3 =>
    have hb4 : FB (putF (putF (putF (putF ([]) (Str.ofString "symbols") (AV.none)) (Str.ofString "code") (.obj kc)) (Str.ofString "max_heap") (.int 100000)) (Str.ofString "occurs") (.bool true)) 4 := FB.put hb3
    refine' Exs.next (H₁ := H ++ [.inst c_Emulator (putF (putF (putF (putF (putF ([]) (Str.ofString "symbols") (AV.none)) (Str.ofString "code") (.obj kc)) (Str.ofString "max_heap") (.int 100000)) (Str.ofString "occurs") (.bool true)) (Str.ofString "max_bits") (.int 4096))]) (Ex.setAttrE (C := c_Emulator) (fs := putF (putF (putF (putF ([]) (Str.ofString "symbols") (AV.none)) (Str.ofString "code") (.obj kc)) (Str.ofString "max_heap") (.int 100000)) (Str.ofString "occurs") (.bool true)) (Ev.ofLocal (v := .int 4096) (.s (.s (.s (.s (.s .z))))) (by kernel_rfl) (by kernel_rfl)) (Ev.ofLocal (v := .obj H.length) .z (by kernel_rfl) (by kernel_rfl)) (at_app _ _ 0) (putF_put _ _ _) (FB.put hb4).nd (Nat.le_trans (FB.put hb4).len (by decide)) (by kernel_rfl) (fun _ _ => rfl) (set_app _ _ 0 _)) ?zs4
    case zs4 =>
    have hb5 : FB (putF (putF (putF (putF (putF ([]) (Str.ofString "symbols") (AV.none)) (Str.ofString "code") (.obj kc)) (Str.ofString "max_heap") (.int 100000)) (Str.ofString "occurs") (.bool true)) (Str.ofString "max_bits") (.int 4096)) 5 := FB.put hb4
    have e : (putF (putF (putF (putF (putF ([]) (Str.ofString "symbols") (AV.none)) (Str.ofString "code") (.obj kc)) (Str.ofString "max_heap") (.int 100000)) (Str.ofString "occurs") (.bool true)) (Str.ofString "max_bits") (.int 4096)) = fs5 kc := by kernel_rfl
    rw [e]
    have hr := reset_ok (S := S) (b := b) (d := d + 1) (H := H ++ [.inst c_Emulator (fs5 kc)]) (i := H.length) (fs := fs5 kc) atLast (.head _) (.tail _ (.tail _ (.head _))) ⟨(fs5_nd kc).nd, by show 5 ≤ 100; decide⟩
    rw [SH_last, List.length_append] at hr
    refine' Exs.next (Ex.expr (Ev.callMeth0 (Ev.ofLocal (v := .obj H.length) .z (by kernel_rfl) (by kernel_rfl)) atLast (by show Str.ofString "reset" ∉ [Str.ofString "symbols", Str.ofString "code", Str.ofString "max_heap", Str.ofString "occurs", Str.ofString "max_bits"]; decide +kernel) (mt_Emulator_reset S.w.params) (fun _ => ⟨_, rfl⟩) hr) (fun _ q => by unfold interactive; rw [q]; rfl) (fun _ _ => rfl)) Exs.nil
noncomputable def mtK : List (PySem.Expr × PySem.Expr) := match f_move_table with
  | .FunctionDef _ _ (.Return (some (.Dict ks vs _)) _ :: _) _ _ _ _ _ _ _ => (ks.filterMap id).zip vs
  | _ => []
noncomputable def mtSc : Scope := match f_move_table with
  | .FunctionDef _ _ _ _ _ _ scope _ _ _ => scope
  | _ => default
noncomputable def ctK : List (PySem.Expr × PySem.Expr) := match f_plain_control_table with
  | .FunctionDef _ _ (.Return (some (.Dict ks vs _)) _ :: _) _ _ _ _ _ _ _ => (ks.filterMap id).zip vs
  | _ => []
noncomputable def ctSc : Scope := match f_plain_control_table with
  | .FunctionDef _ _ _ _ _ _ scope _ _ _ => scope
  | _ => default
theorem mtK_len : mtK.length = 22 := by kernel_rfl
theorem ctK_len : ctK.length = 17 := by kernel_rfl
theorem mtA_ne : vals mtA ≠ [] := fun z => by
  have h : (vals mtA).length = 17 := by kernel_rfl
  rw [z] at h; cases h
theorem mt_ok1 (P : Params) : kvOk (K0 P) mtSc (mtK.take 17) mtA = true := by kernel_rfl
theorem mt_ok2 (P : Params) : kvOk (K0 P) mtSc (mtK.drop 17) mtB = true := by kernel_rfl
theorem ct_ok1 (P : Params) : kvOk (K0 P) ctSc ctK ctL = true := by kernel_rfl
theorem mt_m1 : mergedV [] (vals mtA) = vals mtA := by kernel_rfl
theorem mt_m2 : mergedV [] (vals mtB) = vals mtB := by kernel_rfl
theorem mt_m3 : mergedV (vals mtA) (vals mtB) = vals (mtA ++ mtB) := by kernel_rfl
theorem ct_m1 : mergedV [] (vals ctL) = vals ctL := by kernel_rfl
theorem move_ok {b : Bool} {d : Nat} {H : Hp} : Cl S.W b (d + 2) a_move_table [] H (.obj H.length) (H ++ [.sdict (vals (mtA ++ mtB)), .sdict (vals mtB)]) := by
  refine' Cl.ofBody (W := S.W) (ps := []) (ls := []) (fl := .ret (.obj H.length)) (by exact rfl) (by kernel_rfl) ?bi (by kernel_rfl) rfl (by decide +kernel) (by decide +kernel) rfl rfl rfl ?h rfl
  case bi =>
    intro us hu
    have := List.length_eq_zero_iff.mp hu
    subst this
    rfl
  case h =>
    dsimp only [startFr, List.map, List.cons_append, List.nil_append]
    refine' Exs.ret ?zy
    case zy =>
    refine' Ex.ret ?zz
    case zz =>
    (with_reducible refine' Ev.tab24 (W := S.W) (kvs := mtK) (l := mtA) (lB := mtB) ?q1 ?q2 ?q3 ?q4 ?q5 ?q6 mt_m1 mt_m2 mt_m3 mtA_ne)
    case q1 => kernel_rfl
    case q2 => kernel_rfl
    case q3 => rw [mtK_len]; decide
    case q4 => rw [mtK_len]; decide
    case q5 => exact mt_ok1 _
    case q6 => exact mt_ok2 _
theorem control_ok {b : Bool} {d : Nat} {H : Hp} : Cl S.W b (d + 2) a_plain_control_table [] H (.obj H.length) (H ++ [.sdict (vals ctL)]) := by
  refine' Cl.ofBody (W := S.W) (ps := []) (ls := []) (fl := .ret (.obj H.length)) (by exact rfl) (by kernel_rfl) ?bi (by kernel_rfl) rfl (by decide +kernel) (by decide +kernel) rfl rfl rfl ?h rfl
  case bi =>
    intro us hu
    have := List.length_eq_zero_iff.mp hu
    subst this
    rfl
  case h =>
    dsimp only [startFr, List.map, List.cons_append, List.nil_append]
    refine' Exs.ret ?zy
    case zy =>
    refine' Ex.ret ?zz
    case zz =>
    (with_reducible refine' Ev.tab17 (W := S.W) (kvs := ctK) (l := ctL) ?q1 ?q2 ctK_len ?q5 ct_m1)
    case q1 => kernel_rfl
    case q2 => kernel_rfl
    case q5 => exact ct_ok1 _
end
end
section
noncomputable abbrev emF (n kc ke : Nat) (mx : Int) : List (Str × AV) := [(Str.ofString "symbols", AV.none), (Str.ofString "code", .obj kc), (Str.ofString "max_heap", .int 100000), (Str.ofString "occurs", .bool true), (Str.ofString "max_bits", .int 4096), (Str.ofString "store", .obj (n + 1)), (Str.ofString "x", .obj (n + 5)), (Str.ofString "p", .int 0), (Str.ofString "cp", .int 0), (Str.ofString "e", .int (-1)), (Str.ofString "b", .int (-1)), (Str.ofString "b0", .int (-1)), (Str.ofString "mode", .str "read"), (Str.ofString "s", .int 0), (Str.ofString "guard", voidV), (Str.ofString "roots", .any), (Str.ofString "bags", .any), (Str.ofString "collect_wanted", .bool false), (Str.ofString "entries", .obj ke), (Str.ofString "max_steps", .int mx), (Str.ofString "table", .obj (n + 6))]
noncomputable abbrev emZ (n kc ke : Nat) (mx : Int) : List (Str × AV) := [(Str.ofString "symbols", AV.none), (Str.ofString "code", .obj kc), (Str.ofString "max_heap", .int 100000), (Str.ofString "occurs", .bool true), (Str.ofString "max_bits", .int 4096), (Str.ofString "store", .obj (n + 8)), (Str.ofString "x", .obj (n + 12)), (Str.ofString "p", .int 1), (Str.ofString "cp", .int 1), (Str.ofString "e", .int (-1)), (Str.ofString "b", .int (-1)), (Str.ofString "b0", .int (-1)), (Str.ofString "mode", .str "read"), (Str.ofString "s", .int 0), (Str.ofString "guard", voidV), (Str.ofString "roots", .any), (Str.ofString "bags", .any), (Str.ofString "collect_wanted", .bool false), (Str.ofString "entries", .obj ke), (Str.ofString "max_steps", .int mx), (Str.ofString "table", .obj (n + 6)), (Str.ofString "steps", .int 0), (Str.ofString "halted", .bool true), (Str.ofString "failed", .bool true)]
theorem emF_nd (n kc ke : Nat) (mx : Int) : FB (emF n kc ke mx) 21 := ⟨by show [Str.ofString "symbols", Str.ofString "code", Str.ofString "max_heap", Str.ofString "occurs", Str.ofString "max_bits", Str.ofString "store", Str.ofString "x", Str.ofString "p", Str.ofString "cp", Str.ofString "e", Str.ofString "b", Str.ofString "b0", Str.ofString "mode", Str.ofString "s", Str.ofString "guard", Str.ofString "roots", Str.ofString "bags", Str.ofString "collect_wanted", Str.ofString "entries", Str.ofString "max_steps", Str.ofString "table"].Nodup; decide +kernel, Nat.le_refl _⟩
theorem emF_of (n kc ke : Nat) (mx : Int) : putF (putF (putF (rsF (fs5 kc) (n + 1)) (Str.ofString "entries") (.obj ke)) (Str.ofString "max_steps") (.int mx)) (Str.ofString "table") (.obj (n + 6)) = emF n kc ke mx := by kernel_rfl
theorem emZ_of (n kc ke : Nat) (mx : Int) : clF (emF n kc ke mx) (n + 8) = emZ n kc ke mx := by kernel_rfl
noncomputable abbrev emNs : List Str := [Str.ofString "self", Str.ofString "symbols", Str.ofString "code", Str.ofString "entries", Str.ofString "max_steps", Str.ofString "max_heap", Str.ofString "occurs", Str.ofString "max_bits", Str.ofString "control", Str.ofString "name"]
noncomputable abbrev emG (H : Hp) (kc ke : Nat) (mx : Int) (acc : List (Str × AV)) : Hp := H ++ (.inst c_Emulator (emF H.length kc ke mx) :: (rsT (H.length + 1) ++ [.sdict acc, .sdict (vals mtB)]))
noncomputable def emBody : List PySem.Stmt := match f_Emulator___init__ with
  | .FunctionDef _ _ (_ :: _ :: _ :: _ :: _ :: .For _ _ b _ _ :: _) _ _ _ _ _ _ _ => b
  | _ => []
noncomputable def emSc : Scope := match f_Emulator___init__ with
  | .FunctionDef _ _ _ _ _ _ scope _ _ _ => scope
  | _ => default
section
variable {W : Wd} {b : Bool} {d : Nat} {sc : Scope} {fr : Fr2} {H H₁ H₂ H₃ H₄ : Hp} {v : AV} {e : PySem.Expr} {p : Pos}
theorem Ex.setSE {o i : PySem.Expr} {ip : Pos} {k : Nat} {l l' : List (Str × AV)} {n : Str} (h1 : Ev W b d sc e fr H v H₁) (h2 : Ev W b d sc o fr H₁ (.obj k) H₂) (h3 : Ev W b d sc i fr H₂ (.str n) H₃) (hk : H₃[k]? = some (.sdict l)) (hl : l.length ≤ 1000) (hst : storedV l n v = l')
    (hs : ∀ env, env.scope = sc → swapsWith e (some (.Subscript o i ip)) p.line env = pure false) (hq : H₃.set k (.sdict l') = H₄) :
    Ex W b d sc (.Assign [.Subscript o i ip] e p) fr H .next fr H₄ := hq ▸ Ex.setS h1 h2 h3 hk hl hst hs
end
theorem ct_at : ∀ z ∈ ctL, valueAt ctL z.1 = some z.2 := by
  intro z hz
  have h : ctL.all (fun z => valueAt ctL z.1 == some z.2) = true := by kernel_rfl
  exact beq_iff_eq.mp (List.all_eq_true.mp h z hz)
theorem tbl_of : mergedV (vals (mtA ++ mtB)) (vals ctL) = tbl := by kernel_rfl
section
variable {S : St0}
theorem em_loop {d : Nat} {H : Hp} {kc ke : Nat} {mx : Int} : ∀ (rest : List (Str × Value)) (acc : List (Str × AV)) (o : Option AV), (∀ z ∈ rest, valueAt ctL z.1 = some z.2) → acc.length + rest.length ≤ 900 →
    ∃ o', FT S.W true (d + 1) emSc (Str.ofString "name") emBody (rest.map fun z => .str z.1) (emNs, [some (.obj H.length), some (.none), some (.obj kc), some (.obj ke), some (.int mx), some (.int 100000), some (.bool true), some (.int 4096), some (.sd ctL), o]) (emG H kc ke mx acc) .next (emNs, [some (.obj H.length), some (.none), some (.obj kc), some (.obj ke), some (.int mx), some (.int 100000), some (.bool true), some (.int 4096), some (.sd ctL), o']) (emG H kc ke mx (mergedV acc (vals rest)))
  | [], acc, o, _, _ => ⟨o, .done⟩
  | z :: rest, acc, o, h, hl => by
    rw [List.length_cons] at hl
    obtain ⟨o', ih⟩ := em_loop rest (storedV acc z.1 (.val z.2)) (some (.str z.1)) (fun w hw => h w (.tail _ hw)) (by have := storedV_len acc z.1 (.val z.2); omega)
    refine ⟨o', FT.turn (v := .str z.1) (.s (.s (.s (.s (.s (.s (.s (.s (.s .z))))))))) ?_ ih⟩
    refine Exs.next (H₁ := emG H kc ke mx (storedV acc z.1 (.val z.2))) (fr₁ := (emNs, [some (.obj H.length), some (.none), some (.obj kc), some (.obj ke), some (.int mx), some (.int 100000), some (.bool true), some (.int 4096), some (.sd ctL), some (.str z.1)])) ?_ Exs.nil
    exact Ex.setSE (fr := (emNs, [some (.obj H.length), some (.none), some (.obj kc), some (.obj ke), some (.int mx), some (.int 100000), some (.bool true), some (.int 4096), some (.sd ctL), some (.str z.1)])) (Ev.ditem (l := ctL) (Ev.ofLocal (v := .sd ctL) (.s (.s (.s (.s (.s (.s (.s (.s .z)))))))) (by kernel_rfl) (by kernel_rfl)) (Ev.ofLocal (v := .str z.1) (.s (.s (.s (.s (.s (.s (.s (.s (.s .z))))))))) (by kernel_rfl) (by kernel_rfl)) (h z (.head _)) (fun _ _ _ => rfl)) (Ev.attr (Ev.ofLocal (v := .obj H.length) .z (by kernel_rfl) (by kernel_rfl)) (at_app _ _ 0) (n := Str.ofString "table") (v := .obj (H.length + 6)) (by repeat (first | exact List.mem_cons_self | refine List.mem_cons_of_mem _ ?_)) (emF_nd _ _ _ _).nd (by kernel_rfl) rfl (fun _ _ => rfl)) (Ev.ofLocal (v := .str z.1) (.s (.s (.s (.s (.s (.s (.s (.s (.s .z))))))))) (by kernel_rfl) (by kernel_rfl)) (at_app _ _ 6) (by omega) rfl (fun _ _ => rfl) (set_app _ _ 6 _)
theorem emu_ok {d : Nat} {H : Hp} {kc ke : Nat} {mx : Int} : Cl S.W true (d + 10) a_Emulator___init__ [.obj H.length, .none, .obj kc, .obj ke, .int mx] (H ++ [.inst c_Emulator []]) .none (H ++ (.inst c_Emulator (emZ H.length kc ke mx) :: ((rsT (H.length + 1) ++ [.sdict tbl, .sdict (vals mtB)]) ++ rsT (H.length + 8)))) := by
  obtain ⟨o', lp⟩ := em_loop (S := S) (d := d + 8) (H := H) (kc := kc) (ke := ke) (mx := mx) ctL (vals (mtA ++ mtB)) none ct_at (by decide +kernel)
  rw [tbl_of] at lp
  refine' Cl.ofBodyD (W := S.W) (args' := [.obj H.length, .none, .obj kc, .obj ke, .int mx, .int 100000, .bool true, .int 4096]) (ps := [Str.ofString "self", Str.ofString "symbols", Str.ofString "code", Str.ofString "entries", Str.ofString "max_steps", Str.ofString "max_heap", Str.ofString "occurs", Str.ofString "max_bits"]) (ls := [Str.ofString "control", Str.ofString "name"]) (fl := .next) (by exact rfl) (by kernel_rfl) ?bi (by kernel_rfl) rfl (by decide +kernel) (by decide +kernel) rfl rfl rfl ?h rfl
  case bi =>
    intro s x us hu X
    obtain ⟨_, _, rfl, r0, hu⟩ := VRs.cc hu
    obtain ⟨_, _, rfl, r1, hu⟩ := VRs.cc hu
    obtain ⟨_, _, rfl, r2, hu⟩ := VRs.cc hu
    obtain ⟨_, _, rfl, r3, hu⟩ := VRs.cc hu
    obtain ⟨_, _, rfl, r4, hu⟩ := VRs.cc hu
    obtain rfl := VRs.zz hu
    exact ⟨_, .cons r0 (.cons r1 (.cons r2 (.cons r3 (.cons r4 (.cons (.int _ _) (.cons (.bool _) (.cons (.int _ _) .nil))))))), binds_K X rfl (o := ko_895 S.w.params) rfl rfl rfl rfl⟩
  case h =>
    dsimp only [startFr, List.map, List.cons_append, List.nil_append]
    refine' Exs.next (H₁ := H ++ (.inst c_Emulator (rsF (fs5 kc) (H.length + 1)) :: rsT (H.length + 1))) (Ex.expr ?za (fun _ q => by unfold interactive; rw [q]; rfl) (fun _ _ => rfl)) ?zb
    case za =>
      exact Ev.callClsFn (W := S.W) (ev_Areas (by kernel_rfl)) (by kernel_rfl) (by kernel_rfl) (by kernel_rfl) (by kernel_rfl) (Evs.cons (Ev.ofLocal (v := .obj H.length) .z (by kernel_rfl) (by kernel_rfl)) (Evs.cons (Ev.ofLocal (v := AV.none) (.s .z) (by kernel_rfl) (by kernel_rfl)) (Evs.cons (Ev.ofLocal (v := .obj kc) (.s (.s .z)) (by kernel_rfl) (by kernel_rfl)) (Evs.cons (Ev.ofLocal (v := .int 100000) (.s (.s (.s (.s (.s .z))))) (by kernel_rfl) (by kernel_rfl)) (Evs.cons (Ev.ofLocal (v := .bool true) (.s (.s (.s (.s (.s (.s .z)))))) (by kernel_rfl) (by kernel_rfl)) (Evs.cons (Ev.ofLocal (v := .int 4096) (.s (.s (.s (.s (.s (.s (.s .z))))))) (by kernel_rfl) (by kernel_rfl)) Evs.nil (fun _ => rfl)) (fun _ => rfl)) (fun _ => rfl)) (fun _ => rfl)) (fun _ => rfl)) (fun _ => rfl)) (fun _ => rfl) (fun _ _ => rfl) (fun _ => ⟨_, rfl⟩) areas_ok
    case zb =>
    have hb0 := rsF_nm (n := H.length + 1) (fs5_nd kc)
    refine' Exs.next (H₁ := H ++ (.inst c_Emulator (putF (rsF (fs5 kc) (H.length + 1)) (Str.ofString "entries") (.obj ke)) :: rsT (H.length + 1))) (Ex.setAttrE (C := c_Emulator) (fs := rsF (fs5 kc) (H.length + 1)) (Ev.ofLocal (v := .obj ke) (.s (.s (.s .z))) (by kernel_rfl) (by kernel_rfl)) (Ev.ofLocal (v := .obj H.length) .z (by kernel_rfl) (by kernel_rfl)) (at_app _ _ 0) (putF_put _ _ _) (FB.put hb0).nd (Nat.le_trans (FB.put hb0).len (by decide)) (by kernel_rfl) (fun _ _ => rfl) (set_app _ _ 0 _)) ?zc
    case zc =>
    have hb1 := FB.put (n := Str.ofString "entries") (v := .obj ke) hb0
    refine' Exs.next (H₁ := H ++ (.inst c_Emulator (putF (putF (rsF (fs5 kc) (H.length + 1)) (Str.ofString "entries") (.obj ke)) (Str.ofString "max_steps") (.int mx)) :: rsT (H.length + 1))) (Ex.setAttrE (C := c_Emulator) (fs := putF (rsF (fs5 kc) (H.length + 1)) (Str.ofString "entries") (.obj ke)) (Ev.ofLocal (v := .int mx) (.s (.s (.s (.s .z)))) (by kernel_rfl) (by kernel_rfl)) (Ev.ofLocal (v := .obj H.length) .z (by kernel_rfl) (by kernel_rfl)) (at_app _ _ 0) (putF_put _ _ _) (FB.put hb1).nd (Nat.le_trans (FB.put hb1).len (by decide)) (by kernel_rfl) (fun _ _ => rfl) (set_app _ _ 0 _)) ?zd
    case zd =>
    have hb2 := FB.put (n := Str.ofString "max_steps") (v := .int mx) hb1
    refine' Exs.next (H₁ := emG H kc ke mx (vals (mtA ++ mtB))) ?ze ?zf
    case ze =>
      unfold emG
      rw [← emF_of]
      refine' Ex.setAttrE (C := c_Emulator) (fs := putF (putF (rsF (fs5 kc) (H.length + 1)) (Str.ofString "entries") (.obj ke)) (Str.ofString "max_steps") (.int mx)) (v := .obj (H.length + 6)) (H₂ := H ++ (.inst c_Emulator (putF (putF (rsF (fs5 kc) (H.length + 1)) (Str.ofString "entries") (.obj ke)) (Str.ofString "max_steps") (.int mx)) :: (rsT (H.length + 1) ++ [.sdict (vals (mtA ++ mtB)), .sdict (vals mtB)])))
        ?zg (Ev.ofLocal (v := .obj H.length) .z (by kernel_rfl) (by kernel_rfl)) (at_app _ _ 0) (putF_put _ _ _) (FB.put hb2).nd (Nat.le_trans (FB.put hb2).len (by decide)) (by kernel_rfl) (fun _ _ => rfl) (set_app _ _ 0 _)
      case zg =>
        refine' Ev.eq (Ev.eqH (Ev.callFn0 (W := S.W) (ev_move_table (by kernel_rfl)) (by kernel_rfl) move_ok) ?zh) ?zi
        case zh => rw [List.append_assoc]; rfl
        case zi => rw [List.length_append]; rfl
    case zf =>
    refine' Exs.next (H₁ := emG H kc ke mx (vals (mtA ++ mtB))) (Ex.assign (v := .sd ctL) (Ev.freeze (Ev.callFn0 (W := S.W) (ev_plain_control_table (by kernel_rfl)) (by kernel_rfl) control_ok)) (.s (.s (.s (.s (.s (.s (.s (.s .z)))))))) (by kernel_rfl) (fun _ _ => rfl)) ?zj
    case zj =>
    refine' Exs.next (H₁ := emG H kc ke mx tbl) (Ex.forDict (l := ctL) (Ev.ofLocal (v := .sd ctL) (.s (.s (.s (.s (.s (.s (.s (.s .z)))))))) (by kernel_rfl) (by kernel_rfl)) lp (by kernel_rfl) (fun _ _ => rfl)) ?zk
    case zk =>
    have hc := clear_ok (S := S) (b := true) (d := d + 4) (H := emG H kc ke mx tbl) (i := H.length) (fs := emF H.length kc ke mx) (at_app _ _ 0) (.head _) (.tail _ (.tail _ (.head _))) ⟨(emF_nd _ _ _ _).nd, by show 21 ≤ 80; decide⟩ (by show Str.ofString "reset" ∉ [Str.ofString "symbols", Str.ofString "code", Str.ofString "max_heap", Str.ofString "occurs", Str.ofString "max_bits", Str.ofString "store", Str.ofString "x", Str.ofString "p", Str.ofString "cp", Str.ofString "e", Str.ofString "b", Str.ofString "b0", Str.ofString "mode", Str.ofString "s", Str.ofString "guard", Str.ofString "roots", Str.ofString "bags", Str.ofString "collect_wanted", Str.ofString "entries", Str.ofString "max_steps", Str.ofString "table"]; decide +kernel)
    have hlen : (emG H kc ke mx tbl).length = H.length + 8 := by rw [List.length_append]; rfl
    rw [hlen, emZ_of, SH_mid] at hc
    exact Exs.next (Ex.expr (Ev.callMeth0 (Ev.ofLocal (v := .obj H.length) .z (by kernel_rfl) (by kernel_rfl)) (at_app _ _ 0) (by show Str.ofString "clear" ∉ [Str.ofString "symbols", Str.ofString "code", Str.ofString "max_heap", Str.ofString "occurs", Str.ofString "max_bits", Str.ofString "store", Str.ofString "x", Str.ofString "p", Str.ofString "cp", Str.ofString "e", Str.ofString "b", Str.ofString "b0", Str.ofString "mode", Str.ofString "s", Str.ofString "guard", Str.ofString "roots", Str.ofString "bags", Str.ofString "collect_wanted", Str.ofString "entries", Str.ofString "max_steps", Str.ofString "table"]; decide +kernel) (mt_Emulator_clear S.w.params) (fun _ => ⟨_, rfl⟩) hc) (fun _ q => by unfold interactive; rw [q]; rfl) (fun _ _ => rfl)) Exs.nil
end
end
section
noncomputable def Rn (K : KP) (x x' : LW) (v v' : AV) : Prop := ∀ u, VR K x v u → VR K x' v' u
inductive FsRn (K : KP) (x x' : LW) : List (Str × AV) → List (Str × AV) → Prop
  | nil : FsRn K x x' [] []
  | cons {n : Str} {v v' : AV} {fs fs' : List (Str × AV)} : Rn K x x' v v' → FsRn K x x' fs fs' → FsRn K x x' ((n, v) :: fs) ((n, v') :: fs')
theorem FsRn.go {K : KP} {x x' : LW} {fs fs' : List (Str × AV)} (h : FsRn K x x' fs fs') : ∀ {es : List DictEntry}, FsR K x fs es → FsR K x' fs' es := by
  induction h with
  | nil => intro es r; cases es with | nil => trivial | cons _ _ => exact r.elim
  | cons h _ ih =>
    intro es r
    cases es with
    | nil => exact r.elim
    | cons e es =>
      obtain ⟨a, b, c⟩ := r
      exact ⟨a, h _ b, ih c⟩
theorem Rn.cut {K : KP} {x x' : LW} {n : Nat} (e : Cut n x x') {v : AV} (h : v.bd n) : Rn K x x' v v := fun u r => r.cut e h
theorem Rn.obj {K : KP} {x x' : LW} {k j : Nat} (h : ∀ p, x.ad[k]? = some p → x'.ad[j]? = some p) : Rn K x x' (.obj k) (.obj j) := fun u r => by
  cases r with
  | obj hq => exact .obj (h _ hq)
theorem At.re_own {W : Wd} {c : Cx} {m : Str → Option Value} {h : Heap} {x : LW} {H H₂ : Hp} {σ : Nat → Nat} (A : At W c m H h x) (ho : ∀ (j : Nat) (O₂ : MO), H₂[j]? = some O₂ → ∃ O, H[σ j]? = some O ∧ sameKind O O₂) : ∀ a ∈ (x.re H₂ σ).own, a ∈ x.own := by
  intro a ha
  obtain ⟨k, O₂, p, e1, e2, e3⟩ := ownAll_of ha
  obtain ⟨O, f1, f2⟩ := ho k O₂ e1
  have hl : σ k < x.ad.length := by rw [A.ok.len]; exact (List.getElem?_eq_some_iff.mp f1).1
  have hp : x.ad[σ k]? = some (x.ad[σ k]) := List.getElem?_eq_getElem hl
  have h5 := LW.re_at (x := x) (H₂ := H₂) (σ := σ) (List.getElem?_eq_some_iff.mp e1).1 hp
  have e9 : some p = some _ := e2.symm.trans h5
  cases e9
  exact A.owned f1 hp (by rw [ownOf_same f2]; exact e3)
theorem sameKind_rfl (O : MO) : sameKind O O := by cases O <;> trivial
noncomputable abbrev m0 (n kc ke : Nat) (mx : Int) : Mc := { p := 1, cp := 1, e := -1, b := -1, b0 := -1, steps := 0, max := mx, halted := true, failed := true, hb := 0, bb := 0, xs := [voidV], hp := [], stk := [], trl := [], kc := kc, ke := ke, kt := n }
noncomputable def emuO (k : Nat) : Nat := [6, 0, 8, 12, 9, 10, 11].getD k 0
noncomputable def emuS (n j : Nat) : Nat := if j < n then j else n + emuO (j - n)
theorem emuS_hi {n i : Nat} : emuS n (n + i) = n + emuO i := by
  unfold emuS
  rw [if_neg (Nat.not_lt.mpr (Nat.le_add_right n i)), Nat.add_sub_cancel_left]
theorem emuS_lo {n i : Nat} (h : i < n) : emuS n i = i := if_pos h
theorem emuO_inj : ∀ a < 7, ∀ b < 7, emuO a = emuO b → a = b := by decide
theorem emuS_inj {n i j : Nat} (hi : i < n + 7) (hj : j < n + 7) (h : emuS n i = emuS n j) : i = j := by
  rcases Nat.lt_or_ge i n with a | a
  · rw [emuS_lo a] at h
    rcases Nat.lt_or_ge j n with b | b
    · rw [emuS_lo b] at h; exact h
    · obtain ⟨k, rfl⟩ := Nat.exists_eq_add_of_le b
      rw [emuS_hi] at h
      exact absurd (h ▸ a) (Nat.not_lt.mpr (Nat.le_add_right _ _))
  · obtain ⟨k, rfl⟩ := Nat.exists_eq_add_of_le a
    rw [emuS_hi] at h
    rcases Nat.lt_or_ge j n with b | b
    · rw [emuS_lo b] at h
      exact absurd (h ▸ b) (Nat.not_lt.mpr (Nat.le_add_right _ _))
    · obtain ⟨l, rfl⟩ := Nat.exists_eq_add_of_le b
      rw [emuS_hi] at h
      exact congrArg _ (emuO_inj _ (Nat.lt_of_add_lt_add_left hi) _ (Nat.lt_of_add_lt_add_left hj) (Nat.add_left_cancel h))
noncomputable abbrev bigH (H : Hp) (kc ke : Nat) (mx : Int) : Hp := H ++ (.inst c_Emulator (emZ H.length kc ke mx) :: ((rsT (H.length + 1) ++ [.sdict tbl, .sdict (vals mtB)]) ++ rsT (H.length + 8)))
theorem vals_bd {n : Nat} {l : List (Str × Value)} : ∀ f ∈ vals l, f.2.bd n := by
  intro f hf
  obtain ⟨z, _, rfl⟩ := List.mem_map.mp hf
  exact trivial
section
variable {S : St0} {d : Nat} {sc : Scope} {fr : Fr2} {H H₁ : Hp} {p np : Pos} {e : PySem.Expr} {es : List PySem.Expr} {kc ke : Nat} {mx : Int}
theorem emu_relay {c : Cx} {m : Str → Option Value} {h : Heap} {x : LW} (A : At S.W c m (bigH H kc ke mx) h x) (hb : ∀ (j : Nat) (O : MO), H[j]? = some O → O.bd H.length) (hc : kc < H.length) (he : ke < H.length) :
    At S.W c m (MH (H ++ [.sdict tbl]) (m0 H.length kc ke mx) []) h (x.re (MH (H ++ [.sdict tbl]) (m0 H.length kc ke mx) []) (emuS H.length)) ∧ ∀ a ∈ (x.re (MH (H ++ [.sdict tbl]) (m0 H.length kc ke mx) []) (emuS H.length)).own, a ∈ x.own := by
  have hM : MH (H ++ [.sdict tbl]) (m0 H.length kc ke mx) [] = H ++ (.sdict tbl :: .inst c_Emulator (emuFs (H.length + 1) (m0 H.length kc ke mx)) :: .inst c_Store (stoFs (H.length + 1) (m0 H.length kc ke mx)) :: .list [voidV] :: .list [] :: .list [] :: .list [] :: []) := by
    unfold MH
    rw [List.append_assoc, List.length_append]; rfl
  rw [hM]
  generalize hH2 : (H ++ (.sdict tbl :: .inst c_Emulator (emuFs (H.length + 1) (m0 H.length kc ke mx)) :: .inst c_Store (stoFs (H.length + 1) (m0 H.length kc ke mx)) :: .list [voidV] :: .list [] :: .list [] :: .list [] :: []) : Hp) = H2
  have hlen : H2.length = H.length + 7 := by rw [← hH2, List.length_append]; rfl
  have lo : ∀ j, j < H.length → H2[j]? = H[j]? ∧ (bigH H kc ke mx)[j]? = H[j]? ∧ emuS H.length j = j := fun j hj => ⟨by rw [← hH2, List.getElem?_append_left hj], List.getElem?_append_left hj, emuS_lo hj⟩
  have s0 : emuS H.length (H.length + 0) = H.length + 6 := emuS_hi
  have s1 : emuS H.length (H.length + 1) = H.length := emuS_hi
  have s2 : emuS H.length (H.length + 2) = H.length + 8 := emuS_hi
  have s3 : emuS H.length (H.length + 3) = H.length + 12 := emuS_hi
  have s4 : emuS H.length (H.length + 4) = H.length + 9 := emuS_hi
  have s5 : emuS H.length (H.length + 5) = H.length + 10 := emuS_hi
  have s6 : emuS H.length (H.length + 6) = H.length + 11 := emuS_hi
  have hi : ∀ {j : Nat} {O₂ : MO}, H2[j]? = some O₂ → j < H.length ∨ ∃ i, i < 7 ∧ j = H.length + i ∧ ([.sdict tbl, .inst c_Emulator (emuFs (H.length + 1) (m0 H.length kc ke mx)), .inst c_Store (stoFs (H.length + 1) (m0 H.length kc ke mx)), .list [voidV], .list [], .list [], .list []] : Hp)[i]? = some O₂ := by
    intro j O₂ h
    have hj := (List.getElem?_eq_some_iff.mp h).1
    rw [hlen] at hj
    rcases Nat.lt_or_ge j H.length with q | q
    · exact .inl q
    · refine .inr ⟨j - H.length, Nat.sub_lt_left_of_lt_add q hj, (Nat.add_sub_cancel' q).symm, ?_⟩
      rw [← hH2, List.getElem?_append_right q] at h
      exact h
  have big : ∀ i, (bigH H kc ke mx)[H.length + i]? = (.inst c_Emulator (emZ H.length kc ke mx) :: ((rsT (H.length + 1) ++ [.sdict tbl, .sdict (vals mtB)]) ++ rsT (H.length + 8)) : Hp)[i]? := fun i => at_app _ _ i
  have kinds : ∀ (j : Nat) (O₂ : MO), H2[j]? = some O₂ → ∃ O, (bigH H kc ke mx)[emuS H.length j]? = some O ∧ sameKind O O₂ := by
    intro j O₂ h
    rcases hi h with q | ⟨i, i7, rfl, h9⟩
    · obtain ⟨a, b, c⟩ := lo j q
      exact ⟨O₂, by rw [c, b, ← a]; exact h, sameKind_rfl _⟩
    · clear h
      match i, i7, h9 with
      | 0, _, h => cases h; rw [s0, big 6]; exact ⟨_, rfl, trivial⟩
      | 1, _, h => cases h; rw [s1]; exact ⟨_, big 0, trivial⟩
      | 2, _, h => cases h; rw [s2, big 8]; exact ⟨_, rfl, trivial⟩
      | 3, _, h => cases h; rw [s3, big 12]; exact ⟨_, rfl, trivial⟩
      | 4, _, h => cases h; rw [s4, big 9]; exact ⟨_, rfl, trivial⟩
      | 5, _, h => cases h; rw [s5, big 10]; exact ⟨_, rfl, trivial⟩
      | 6, _, h => cases h; rw [s6, big 11]; exact ⟨_, rfl, trivial⟩
  have hown := A.re_own kinds
  have cut : Cut H.length x (x.re H2 (emuS H.length)) := Cut.re (fun k hk => ⟨by rw [hlen]; exact Nat.lt_add_right _ hk, (lo k hk).2.2⟩) hown
  have go : ∀ {k j : Nat}, j < H.length + 7 → emuS H.length j = k → Rn S.W.kp x (x.re H2 (emuS H.length)) (.obj k) (.obj j) := fun hj hs => Rn.obj fun p hp => LW.re_at (by rw [hlen]; exact hj) (by rw [hs]; exact hp)
  have tr : ∀ {v : AV}, v.bd H.length → Rn S.W.kp x (x.re H2 (emuS H.length)) v v := fun h => Rn.cut cut h
  refine A.relay (fun i j h1 h2 h => emuS_inj (by rw [hlen] at h1; exact h1) (by rw [hlen] at h2; exact h2) h) fun j O₂ h => ?_
  rcases hi h with q | ⟨i, i7, rfl, h9⟩
  · obtain ⟨a, b, c⟩ := lo j q
    rw [a] at h
    exact ⟨O₂, by rw [c, b]; exact h, sameKind_rfl _, fun p r => r.cut cut (hb j O₂ h) (fun _ _ _ h => h)⟩
  · clear h
    match i, i7, h9 with
    | 0, _, h => cases h; rw [s0, big 6]; exact ⟨_, rfl, trivial, fun p r => r.cut cut vals_bd (fun _ _ _ h => h)⟩
    | 1, _, h =>
      cases h
      rw [s1]
      refine ⟨_, big 0, trivial, fun p r => ?_⟩
      obtain ⟨es, nn, m1, m2, r⟩ := r
      refine ⟨es, nn, m1, m2, FsRn.go ?_ r⟩
      refine .cons (tr trivial) (.cons (tr hc) (.cons (tr trivial) (.cons (tr trivial) (.cons (tr trivial) (.cons (go (Nat.add_lt_add_left (by decide) _) s2) (.cons (go (Nat.add_lt_add_left (by decide) _) s3) ?_))))))
      refine .cons (tr trivial) (.cons (tr trivial) (.cons (tr trivial) (.cons (tr trivial) (.cons (tr trivial) (.cons (tr trivial) (.cons (tr trivial) ?_))))))
      refine .cons (tr (show AV.bd _ voidV from ⟨trivial, trivial, trivial⟩)) (.cons (tr trivial) (.cons (tr trivial) (.cons (tr trivial) (.cons (tr he) (.cons (tr trivial) (.cons (go (j := H.length) (Nat.lt_add_of_pos_right (by decide)) s0) ?_))))))
      exact .cons (tr trivial) (.cons (tr trivial) (.cons (tr trivial) .nil))
    | 2, _, h =>
      cases h
      rw [s2, big 8]
      refine ⟨_, rfl, trivial, fun p r => ?_⟩
      obtain ⟨es, nn, m1, m2, r⟩ := r
      refine ⟨es, nn, m1, m2, FsRn.go ?_ r⟩
      exact .cons (tr trivial) (.cons (tr trivial) (.cons (go (Nat.add_lt_add_left (by decide) _) s4) (.cons (go (Nat.add_lt_add_left (by decide) _) s5) (.cons (go (Nat.add_lt_add_left (by decide) _) s6) (.cons (tr trivial) (.cons (tr trivial) .nil))))))
    | 3, _, h => cases h; rw [s3, big 12]; exact ⟨_, rfl, trivial, fun p r => r.cut cut (show AV.bd _ voidV ∧ True from ⟨⟨trivial, trivial, trivial⟩, trivial⟩) (fun _ _ _ h => h)⟩
    | 4, _, h => cases h; rw [s4, big 9]; exact ⟨_, rfl, trivial, fun p r => r.cut cut trivial (fun _ _ _ h => h)⟩
    | 5, _, h => cases h; rw [s5, big 10]; exact ⟨_, rfl, trivial, fun p r => r.cut cut trivial (fun _ _ _ h => h)⟩
    | 6, _, h => cases h; rw [s6, big 11]; exact ⟨_, rfl, trivial, fun p r => r.cut cut trivial (fun _ _ _ h => h)⟩
theorem Ev.newEmu (hx : sc.names.lookup (Str.ofString "Emulator") = some .globalImplicit) (h1 : Evs S.W true (d + 11) sc (e :: es) fr H [.none, .obj kc, .obj ke, .int mx] H₁) (hst : ∀ env, starEach (e :: es) env = (false, eval e env) :: starEach es env) (hp : ∀ pos env, (backTo pos (starEach es env)).any (·.1) = false)
    (hb : (∀ (j : Nat) (O : MO), H[j]? = some O → O.bd H.length) → ∀ (j : Nat) (O : MO), H₁[j]? = some O → O.bd H₁.length) (hl : H₁.length = H.length) (hc : kc < H₁.length) (he : ke < H₁.length) :
    Ev S.W true (d + 11) sc (.Call (.Name (Str.ofString "Emulator") np) (e :: es) [] p) fr H (.obj (H₁.length + 1)) (MH (H₁ ++ [.sdict tbl]) (m0 H₁.length kc ke mx) []) := by
  intro c O s m x A F Q E h
  have hbd := hb fun j O hj => A.ok.bd hj
  refine (Ev.callCls (W := S.W) (b := true) (H₁ := H₁) (H₂ := bigH H₁ kc ke mx) (ev_Emulator hx) h1 (by kernel_rfl) hst hp (by kernel_rfl) (by kernel_rfl) (by kernel_rfl) emu_ok) c O s m x A F Q E fun u h' t' x' A' e' r' => ?_
  obtain ⟨A2, ho⟩ := emu_relay A' hbd hc he
  have hlen : (MH (H₁ ++ [.sdict tbl]) (m0 H₁.length kc ke mx) []).length = H₁.length + 7 := by
    unfold MH
    rw [List.length_append, List.length_append]; rfl
  refine h u h' t' _ A2 (e'.re (fun k p hp => ?_) ho) ?_
  · have hk : k < H₁.length := by rw [hl, ← A.ok.len]; exact (List.getElem?_eq_some_iff.mp hp).1
    exact ⟨by rw [hlen]; exact Nat.lt_add_right _ hk, emuS_lo hk⟩
  · obtain ⟨_, hq, rfl⟩ := VR.o r'
    refine .obj (LW.re_at (by rw [hlen]; exact Nat.add_lt_add_left (by decide) _) ?_)
    have s1 : emuS H₁.length (H₁.length + 1) = H₁.length := emuS_hi
    rw [s1]
    exact hq
end
end
section
section
variable {W : Wd} {b : Bool} {d : Nat} {sc : Scope} {fr : Fr2} {H H₁ H₂ H₃ : Hp} {v : AV} {e : PySem.Expr} {p : Pos}
theorem Ev.fdiv {l r : PySem.Expr} {i j : Int} (h1 : Ev W b d sc l fr H (.int i) H₁) (h2 : Ev W b d sc r fr H₁ (.int j) H₂) (hj : 0 < j) (hj2 : j < 1000) : Ev W b d sc (.BinOp l .FloorDiv r p) fr H (.int (i.fdiv j)) H₂ := by
  intro c O s m x A F Q E h
  refine wpAny_BinOp (h1 c O s m x A F _ _ fun u h' t' x' A' e' r' => ?_)
  refine h2 c O _ m x' A' (F.mono e') _ _ fun u2 h2' t2 x2 A2 e2 r2 => ?_
  cases r'; cases r2
  exact floordiv_int (by omega) (h _ _ _ x2 A2 (e'.trans e2) (.int _ _))
end
structure PotAt (H : Hp) (kp kn : Nat) (i : Int) (l : List Int) : Prop where
  p : H[kp]? = some (.list [.int i, .obj kn])
  n : H[kn]? = some (.list (l.map .int))
  ne : kp ≠ kn
  l0 : l ≠ []
  l1 : l.length ≤ 20
noncomputable abbrev potSet (H : Hp) (kp kn : Nat) (i : Int) (l : List Int) : Hp := (H.set kp (.list [.int i, .obj kn])).set kn (.list (l.map .int))
theorem PotAt.set {H : Hp} {kp kn : Nat} {i : Int} {l : List Int} (h : PotAt H kp kn i l) (j : Int) {l' : List Int} (hl : l'.length = l.length) : PotAt (potSet H kp kn j l') kp kn j l' := by
  have hp := (List.getElem?_eq_some_iff.mp h.p).1
  have hn := (List.getElem?_eq_some_iff.mp h.n).1
  refine ⟨?_, ?_, h.ne, fun e => h.l0 ?_, by rw [hl]; exact h.l1⟩
  · rw [List.getElem?_set_ne (Ne.symm h.ne), List.getElem?_set_self hp]
  · rw [List.getElem?_set_self (by rw [List.length_set]; exact hn)]
  · subst e; exact List.eq_nil_of_length_eq_zero hl.symm
theorem PotAt.app {H : Hp} {kp kn : Nat} {i : Int} {l : List Int} (h : PotAt H kp kn i l) (T : Hp) : PotAt (H ++ T) kp kn i l := by
  have hp := (List.getElem?_eq_some_iff.mp h.p).1
  have hn := (List.getElem?_eq_some_iff.mp h.n).1
  exact ⟨by rw [List.getElem?_append_left hp]; exact h.p, by rw [List.getElem?_append_left hn]; exact h.n, h.ne, h.l0, h.l1⟩
theorem potSet_app {H : Hp} {kp kn : Nat} {i : Int} {l : List Int} (h : PotAt H kp kn i l) (T : Hp) (j : Int) (l' : List Int) : potSet (H ++ T) kp kn j l' = potSet H kp kn j l' ++ T := by
  have hp := (List.getElem?_eq_some_iff.mp h.p).1
  have hn := (List.getElem?_eq_some_iff.mp h.n).1
  unfold potSet
  rw [List.set_append_left _ _ hp, List.set_append_left _ _ (by rw [List.length_set]; exact hn)]
theorem usC2 {us : List Value} (h : us.length = 2) : ∃ a b, us = [a, b] := by
  cases us with
  | nil => cases h
  | cons a us => obtain ⟨b, e⟩ := List.length_eq_one_iff.mp (Nat.succ.inj h); exact ⟨a, b, by rw [e]⟩
noncomputable def digV (i : Int) (l : List Int) (lim : Int) : Int := (l.getD (i.fmod l.length).toNat 0).fmod lim
noncomputable def digL (i : Int) (l : List Int) (lim : Int) : List Int := l.set (i.fmod l.length).toNat ((l.getD (i.fmod l.length).toNat 0).fdiv lim + (i + 1))
theorem digV_bounds {i : Int} {l : List Int} {lim : Int} (h : 0 < lim) : 0 ≤ digV i l lim ∧ digV i l lim < lim := ⟨Int.fmod_nonneg_of_pos _ h, Int.fmod_lt_of_pos _ h⟩
theorem digL_len {i : Int} {l : List Int} {lim : Int} : (digL i l lim).length = l.length := List.length_set
section
variable {S : St0} {b : Bool} {d : Nat}
theorem g_len' (P : Params) : nsIn (K0 P) mainGlobals (Str.ofString "len") = some none := by kernel_rfl
theorem digit_ok {H : Hp} {kp kn : Nat} {i : Int} {l : List Int} {lim : Int} (h : PotAt H kp kn i l) (hl : 0 < lim) (hl2 : lim < 1000) :
    Cl S.W b (d + 2) a__law_digit [.obj kp, .int lim] H (.int (digV i l lim)) (potSet H kp kn (i + 1) (digL i l lim)) := by
  have hp := (List.getElem?_eq_some_iff.mp h.p).1
  have hn := (List.getElem?_eq_some_iff.mp h.n).1
  have len0 : 0 < (l.length : Int) := by
    have := List.length_pos_iff.mpr h.l0
    omega
  have s0 : 0 ≤ i.fmod l.length := Int.fmod_nonneg_of_pos _ len0
  have s1 : i.fmod l.length < l.length := Int.fmod_lt_of_pos _ len0
  have s2 : i.fmod l.length < 2 ^ 63 := by have := h.l1; omega
  have s3 : (i.fmod l.length).toNat < l.length := by omega
  have hx : (l.map AV.int)[(i.fmod l.length).toNat]? = some (.int (l.getD (i.fmod l.length).toNat 0)) := by
    rw [List.getElem?_map, List.getElem?_eq_getElem s3, List.getD_eq_getElem?_getD, List.getElem?_eq_getElem s3]; rfl
  let H' := H.set kp (.list [.int (i + 1), .obj kn])
  have p' : H'[kp]? = some (.list [.int (i + 1), .obj kn]) := List.getElem?_set_self hp
  have n' : H'[kn]? = some (.list (l.map .int)) := by
    show (H.set kp _)[kn]? = _
    rw [List.getElem?_set_ne h.ne]; exact h.n
  have fin : (l.map AV.int).set (i.fmod l.length).toNat (.int ((l.getD (i.fmod l.length).toNat 0).fdiv lim + (i + 1))) = (digL i l lim).map .int := by
    unfold digL
    rw [List.map_set]
  refine Cl.eq (H₁ := H'.set kn (.list ((l.map AV.int).set (i.fmod l.length).toNat (.int ((l.getD (i.fmod l.length).toNat 0).fdiv lim + (i + 1)))))) ?cl rfl (by rw [fin])
  case cl =>
    refine' Cl.ofBody (ps := [Str.ofString "pot", Str.ofString "limit"]) (ls := [Str.ofString "numbers", Str.ofString "spot", Str.ofString "digit"]) (fl := .ret (.int (digV i l lim))) (by exact rfl) (by kernel_rfl) ?bi (by kernel_rfl) rfl (by decide +kernel) (by decide +kernel) rfl rfl rfl ?h rfl
    case bi =>
      intro us hu
      obtain ⟨u0, u1, rfl⟩ := usC2 hu
      rfl
    case h =>
      refine' Exs.next (Ex.assign (Ev.litem (Ev.ofLocal (v := .obj kp) .z (by kernel_rfl) (by kernel_rfl)) Ev.int h.p (by decide) (by decide) (v := .obj kn) rfl (fun _ _ _ => rfl)) (.s (.s .z)) (by kernel_rfl) (fun _ _ => rfl)) ?zk1
      case zk1 =>
      refine' Exs.next (Ex.assign (Ev.mod (Ev.litem (Ev.ofLocal (v := .obj kp) .z (by kernel_rfl) (by kernel_rfl)) Ev.int h.p (by decide) (by decide) (v := .int i) rfl (fun _ _ _ => rfl))
        (Ev.len (Ev.ofBuiltin (W := S.W) (g_len' S.w.params) (by boot_fast) (by decide +kernel) (by kernel_rfl) (by kernel_rfl)) (Ev.ofLocal (v := .obj kn) (.s (.s .z)) (by kernel_rfl) (by kernel_rfl)) h.n (by rw [List.length_map]; have := h.l1; omega) (fun _ => rfl)) (by rw [List.length_map]; omega)) (.s (.s (.s .z))) (by kernel_rfl) (fun _ _ => rfl)) ?zk2
      case zk2 =>
      rw [List.length_map]
      refine' Exs.next (H₁ := H') (Ex.augItem (Ev.ofLocal (v := .obj kp) .z (by kernel_rfl) (by kernel_rfl)) Ev.int h.p (by decide) (by decide) (a := i) (j := 1) rfl Ev.int (fun _ _ _ => rfl)) ?zk3
      case zk3 =>
      refine' Exs.next (Ex.assign (Ev.mod (Ev.litem (Ev.ofLocal (v := .obj kn) (.s (.s .z)) (by kernel_rfl) (by kernel_rfl)) (Ev.ofLocal (v := .int (i.fmod l.length)) (.s (.s (.s .z))) (by kernel_rfl) (by kernel_rfl)) n' s0 s2 hx (fun _ _ _ => rfl)) (Ev.ofLocal (v := .int lim) (.s .z) (by kernel_rfl) (by kernel_rfl)) (by omega)) (.s (.s (.s (.s .z)))) (by kernel_rfl) (fun _ _ => rfl)) ?zk4
      case zk4 =>
      refine' Exs.next (Ex.setItem (Ev.add (Ev.fdiv (Ev.litem (Ev.ofLocal (v := .obj kn) (.s (.s .z)) (by kernel_rfl) (by kernel_rfl)) (Ev.ofLocal (v := .int (i.fmod l.length)) (.s (.s (.s .z))) (by kernel_rfl) (by kernel_rfl)) n' s0 s2 hx (fun _ _ _ => rfl)) (Ev.ofLocal (v := .int lim) (.s .z) (by kernel_rfl) (by kernel_rfl)) hl hl2) (Ev.litem (Ev.ofLocal (v := .obj kp) .z (by kernel_rfl) (by kernel_rfl)) Ev.int p' (by decide) (by decide) (v := .int (i + 1)) rfl (fun _ _ _ => rfl)))
        (Ev.ofLocal (v := .obj kn) (.s (.s .z)) (by kernel_rfl) (by kernel_rfl)) (Ev.ofLocal (v := .int (i.fmod l.length)) (.s (.s (.s .z))) (by kernel_rfl) (by kernel_rfl)) n' s0 s2 (by rw [List.length_map]; exact s3) (fun _ _ => rfl)) ?zk5
      case zk5 =>
      exact Exs.ret (Ex.ret (Ev.ofLocal (v := .int (digV i l lim)) (.s (.s (.s (.s .z)))) (by kernel_rfl) (by kernel_rfl)))
end
end
local macro_rules | `(tactic| walk_at "FTW") => wTab "Z FT.done;U FT.turn PUT EXS +FTW"
local macro_rules | `(tactic| walk_at "ST") => wTab "R Ex.forRange1 =2 ev_range/k EV r NN NN G k 1 2"
local macro_rules | `(tactic| walk_at "ST") => wTab "R Ex.forList EV FTW k 2"
local macro_rules | `(tactic| walk_at "ST") => wTab "R Ex.forRange2 =1 ev_range/k EV EV NN NN NN NN r F k 1 2"
local macro_rules | `(tactic| walk_at "ST") => wTab "R Ex.delTail EV EV HK HY NN"
local macro_rules | `(tactic| walk_at "CL") => wTab "L a"
section
section
variable {S : St0}
theorem top_a {b : Bool} {d : Nat} {H1 H2 : Hp} {m : Mc} {n : Int} {a0 a1 : AV} {code : List AV} (h : m.b < m.e) (hc : H1[m.kc]? = some (.list code)) (h0 : 0 ≤ m.cp - 1) (hn : m.cp - 1 < 100000) (hi : code[(m.cp - 1).toNat]? = some (.tup [a0, a1, .int n])) : Cl S.W b (d + 3) a_Areas_top [.obj H1.length] (MH H1 m H2) (.int (m.e + 2 + n)) (MH H1 m H2) := by
  refine' Cl.eq ?cl ?qr ?qh
  case cl =>
    refine' Cl.ofBody (ps := [Str.ofString "self"]) (ls := []) ?f ?cd ?bi ?lo ?n ?nd ?ce ?co ?ge ?k ?h ?r
    case f => exact rfl
    case cd => kernel_rfl
    case bi =>
      intro us hu
      obtain ⟨u0, rfl⟩ := usIs1 hu
      rfl
    case lo => kernel_rfl
    case n => rfl
    case nd => decide +kernel
    case ce => decide +kernel
    case co => rfl
    case ge => rfl
    case k => rfl
    case h =>
      dsimp only [startFr, List.map, List.cons_append, List.nil_append]
      walk_at "DS"
      walk_at "EXS"
    case r => rfl
  case qr => rfl
  case qh => rfl
end
end
local macro_rules | `(tactic| walk_at "CL") => wTab "U top_a HY HY HY HY HY"
section
section
variable {S : St0}
theorem top_b {b : Bool} {d : Nat} {H1 H2 : Hp} {m : Mc} {k : Int} (h : ¬ m.b < m.e) (hb : 0 ≤ m.b) (hb2 : m.b < 100000) (hk : m.stk[m.b.toNat]? = some (.int k)) : Cl S.W b (d + 3) a_Areas_top [.obj H1.length] (MH H1 m H2) (.int (m.b + k + 8)) (MH H1 m H2) := by
  refine' Cl.eq ?cl ?qr ?qh
  case cl =>
    refine' Cl.ofBody (ps := [Str.ofString "self"]) (ls := []) ?f ?cd ?bi ?lo ?n ?nd ?ce ?co ?ge ?k ?h ?r
    case f => exact rfl
    case cd => kernel_rfl
    case bi =>
      intro us hu
      obtain ⟨u0, rfl⟩ := usIs1 hu
      rfl
    case lo => kernel_rfl
    case n => rfl
    case nd => decide +kernel
    case ce => decide +kernel
    case co => rfl
    case ge => rfl
    case k => rfl
    case h =>
      dsimp only [startFr, List.map, List.cons_append, List.nil_append]
      walk_at "DS"
      walk_at "EXS"
    case r => rfl
  case qr => rfl
  case qh => rfl
end
end
local macro_rules | `(tactic| walk_at "CL") => wTab "U top_b HY HY HY HY"
section
section
variable {S : St0}
theorem top_c {b : Bool} {d : Nat} {H1 H2 : Hp} {m : Mc} (h : ¬ m.b < m.e) (hb : ¬ 0 ≤ m.b) : Cl S.W b (d + 3) a_Areas_top [.obj H1.length] (MH H1 m H2) (.int 0) (MH H1 m H2) := by
  refine' Cl.eq ?cl ?qr ?qh
  case cl =>
    refine' Cl.ofBody (ps := [Str.ofString "self"]) (ls := []) ?f ?cd ?bi ?lo ?n ?nd ?ce ?co ?ge ?k ?h ?r
    case f => exact rfl
    case cd => kernel_rfl
    case bi =>
      intro us hu
      obtain ⟨u0, rfl⟩ := usIs1 hu
      rfl
    case lo => kernel_rfl
    case n => rfl
    case nd => decide +kernel
    case ce => decide +kernel
    case co => rfl
    case ge => rfl
    case k => rfl
    case h =>
      dsimp only [startFr, List.map, List.cons_append, List.nil_append]
      walk_at "DS"
      walk_at "EXS"
    case r => rfl
  case qr => rfl
  case qh => rfl
end
end
local macro_rules | `(tactic| walk_at "CL") => wTab "U top_c HY HY"
section
section
variable {S : St0}
theorem push_environment_ok {d : Nat} {H1 H2 : Hp} {m : Mc} {t : Int} (h0 : 0 ≤ t) (hi : t ≤ (m.stk.length : Int)) (hl : m.stk.length ≤ 80000) (ht : Cl S.W true (d + 4) a_Areas_top [.obj H1.length] (MH H1 m H2) (.int t) (MH H1 m H2)) : Cl S.W true (d + 5) a_Areas_push_environment [.obj H1.length, .int 2] (MH H1 m H2) (.none) (MH H1 ((m.w_stk (sput (sput (sput (sput m.stk (t) (AV.int m.e)) (t + 1) (AV.int m.cp)) (t + 2 + 0) (voidV)) (t + 2 + 1) (voidV))).w_e t) H2) := by
  have f0 := sput_len (v := AV.int m.e) h0 hi
  have f1 := sput_len (l := (sput m.stk (t) (AV.int m.e))) (i := t + 1) (v := AV.int m.cp) (by omega) (by omega)
  have f2 := sput_len (l := (sput (sput m.stk (t) (AV.int m.e)) (t + 1) (AV.int m.cp))) (i := t + 2 + 0) (v := voidV) (by omega) (by omega)
  have f3 := sput_len (l := (sput (sput (sput m.stk (t) (AV.int m.e)) (t + 1) (AV.int m.cp)) (t + 2 + 0) (voidV))) (i := t + 2 + 1) (v := voidV) (by omega) (by omega)
  refine' Cl.eq ?cl ?qr ?qh
  case cl =>
    refine' Cl.ofBody (ps := [Str.ofString "self", Str.ofString "size"]) (ls := [Str.ofString "place", Str.ofString "store", Str.ofString "number"]) ?f ?cd ?bi ?lo ?n ?nd ?ce ?co ?ge ?k ?h ?r
    case f => exact rfl
    case cd => kernel_rfl
    case bi =>
      intro us hu
      obtain ⟨u0, u1, rfl⟩ := usIs2 hu
      rfl
    case lo => kernel_rfl
    case n => rfl
    case nd => decide +kernel
    case ce => decide +kernel
    case co => rfl
    case ge => rfl
    case k => rfl
    case h =>
      dsimp only [startFr, List.map, List.cons_append, List.nil_append]
      walk_at "DS"
      walk_at "EXS"
    case r => rfl
  case qr => rfl
  case qh => rfl
end
end
local macro_rules | `(tactic| walk_at "CL") => wTab "U push_environment_ok HY HY HY HY"
section
section
variable {S : St0}
theorem pop_environment_ok {b : Bool} {d : Nat} {H1 H2 : Hp} {m : Mc} {ce cc : Int} (h0 : 0 ≤ m.e) (hn : m.e < 90000) (h1 : m.stk[(m.e + 1).toNat]? = some (.int cc)) (h2 : m.stk[m.e.toNat]? = some (.int ce)) : Cl S.W b (d + 2) a_Areas_pop_environment [.obj H1.length] (MH H1 m H2) (.none) (MH H1 ((m.w_cp cc).w_e ce) H2) := by
  refine' Cl.eq ?cl ?qr ?qh
  case cl =>
    refine' Cl.ofBody (ps := [Str.ofString "self"]) (ls := [Str.ofString "stack"]) ?f ?cd ?bi ?lo ?n ?nd ?ce ?co ?ge ?k ?h ?r
    case f => exact rfl
    case cd => kernel_rfl
    case bi =>
      intro us hu
      obtain ⟨u0, rfl⟩ := usIs1 hu
      rfl
    case lo => kernel_rfl
    case n => rfl
    case nd => decide +kernel
    case ce => decide +kernel
    case co => rfl
    case ge => rfl
    case k => rfl
    case h =>
      dsimp only [startFr, List.map, List.cons_append, List.nil_append]
      walk_at "DS"
      walk_at "EXS"
    case r => rfl
  case qr => rfl
  case qh => rfl
end
end
local macro_rules | `(tactic| walk_at "CL") => wTab "U pop_environment_ok HY HY HY HY"
section
section
variable {S : St0}
theorem push_choice_ok {d : Nat} {H1 H2 : Hp} {m : Mc} {t a : Int} {c : AV} (h0 : 0 ≤ t) (hi : t ≤ (m.stk.length : Int)) (hl : m.stk.length ≤ 80000) (hl2 : m.trl.length ≤ 90000) (hl3 : m.hp.length ≤ 90000) (ht : Cl S.W true (d + 4) a_Areas_top [.obj H1.length] (MH H1 m H2) (.int t) (MH H1 m H2)) : Cl S.W true (d + 5) a_Areas_push_choice [.obj H1.length, .fl [c], .int a] (MH H1 m H2) (.none) (MH H1 ((((m.w_stk (sput (sput (sput (sput (sput (sput (sput (sput (sput m.stk (t) (AV.int 1)) (t + 1) (c)) (t + 1 + 1) (AV.int m.e)) (t + 1 + 2) (AV.int m.cp)) (t + 1 + 3) (AV.int m.b)) (t + 1 + 4) (AV.int a)) (t + 1 + 5) (AV.int m.trl.length)) (t + 1 + 6) (AV.int m.hp.length)) (t + 1 + 7) (AV.int m.b0))).w_b t).w_hb m.hp.length).w_bb t) H2) := by
  have a1 : 0 ≤ t + 1 := by omega
  have a2 : 0 ≤ t + 1 + 1 := by omega
  have a3 : 0 ≤ t + 1 + 2 := by omega
  have a4 : 0 ≤ t + 1 + 3 := by omega
  have a5 : 0 ≤ t + 1 + 4 := by omega
  have a6 : 0 ≤ t + 1 + 5 := by omega
  have a7 : 0 ≤ t + 1 + 6 := by omega
  have a8 : 0 ≤ t + 1 + 7 := by omega
  have e1 : t + 1 = t + 1 := by omega
  have e2 : t + 1 + 1 = t + 1 + 1 := by omega
  have e3 : t + 1 + 2 = t + 1 + 1 + 1 := by omega
  have e4 : t + 1 + 3 = t + 1 + 2 + 1 := by omega
  have e5 : t + 1 + 4 = t + 1 + 3 + 1 := by omega
  have e6 : t + 1 + 5 = t + 1 + 4 + 1 := by omega
  have e7 : t + 1 + 6 = t + 1 + 5 + 1 := by omega
  have e8 : t + 1 + 7 = t + 1 + 6 + 1 := by omega
  have q1 : t < t + 1 := by omega
  have q2 : t < t + 1 + 1 := by omega
  have q3 : t < t + 1 + 2 := by omega
  have q4 : t < t + 1 + 3 := by omega
  have q5 : t < t + 1 + 4 := by omega
  have q6 : t < t + 1 + 5 := by omega
  have q7 : t < t + 1 + 6 := by omega
  have q8 : t < t + 1 + 7 := by omega
  have q9 : t + 1 + 6 < t + 1 + 7 := by omega
  have s0 : t ≤ (m.stk.length : Int) ∧ m.stk.length ≤ 80000 := ⟨hi, hl⟩
  have s1 := sput_step (v := AV.int 1) h0 s0 e1
  have s2 := sput_step (v := c) a1 s1 e2
  have s3 := sput_step (v := AV.int m.e) a2 s2 e3
  have s4 := sput_step (v := AV.int m.cp) a3 s3 e4
  have s5 := sput_step (v := AV.int m.b) a4 s4 e5
  have s6 := sput_step (v := AV.int a) a5 s5 e6
  have s7 := sput_step (v := AV.int m.trl.length) a6 s6 e7
  have s8 := sput_step (v := AV.int m.hp.length) a7 s7 e8
  have b1 := s1.1
  have c1 := le90 s1.2 rfl
  have b2 := s2.1
  have c2 := le90 s2.2 rfl
  have b3 := s3.1
  have c3 := le90 s3.2 rfl
  have b4 := s4.1
  have c4 := le90 s4.2 rfl
  have b5 := s5.1
  have c5 := le90 s5.2 rfl
  have b6 := s6.1
  have c6 := le90 s6.2 rfl
  have b7 := s7.1
  have c7 := le90 s7.2 rfl
  have b8 := s8.1
  have c8 := le90 s8.2 rfl
  have c0 := le90 hl rfl
  have g1 : (sput (sput (sput (sput (sput (sput (sput (sput (sput m.stk (t) (AV.int 1)) (t + 1) (c)) (t + 1 + 1) (AV.int m.e)) (t + 1 + 2) (AV.int m.cp)) (t + 1 + 3) (AV.int m.b)) (t + 1 + 4) (AV.int a)) (t + 1 + 5) (AV.int m.trl.length)) (t + 1 + 6) (AV.int m.hp.length)) (t + 1 + 7) (AV.int m.b0))[t.toNat]? = some (.int 1) := sput_past h0 q8 (sput_past h0 q7 (sput_past h0 q6 (sput_past h0 q5 (sput_past h0 q4 (sput_past h0 q3 (sput_past h0 q2 (sput_past h0 q1 (sput_get h0 hi))))))))
  have g2 : (sput (sput (sput (sput (sput (sput (sput (sput (sput m.stk (t) (AV.int 1)) (t + 1) (c)) (t + 1 + 1) (AV.int m.e)) (t + 1 + 2) (AV.int m.cp)) (t + 1 + 3) (AV.int m.b)) (t + 1 + 4) (AV.int a)) (t + 1 + 5) (AV.int m.trl.length)) (t + 1 + 6) (AV.int m.hp.length)) (t + 1 + 7) (AV.int m.b0))[(t + 1 + 6).toNat]? = some (.int m.hp.length) := sput_past a7 q9 (sput_get a7 b7)
  clear s8 s7 s6 s5 s4 s3 s2 s1 s0 e1 q1 e2 q2 e3 q3 e4 q4 e5 q5 e6 q6 e7 q7 e8 q8 q9
  refine' Cl.eq ?cl ?qr ?qh
  case cl =>
    refine' Cl.ofBody (ps := [Str.ofString "self", Str.ofString "cells", Str.ofString "alternative"]) (ls := [Str.ofString "store", Str.ofString "place", Str.ofString "count", Str.ofString "at", Str.ofString "cell"]) ?f ?cd ?bi ?lo ?n ?nd ?ce ?co ?ge ?k ?h ?r
    case f => exact rfl
    case cd => kernel_rfl
    case bi =>
      intro us hu
      obtain ⟨u0, u1, u2, rfl⟩ := usIs3 hu
      rfl
    case lo => kernel_rfl
    case n => rfl
    case nd => decide +kernel
    case ce => decide +kernel
    case co => rfl
    case ge => rfl
    case k => rfl
    case h =>
      dsimp only [startFr, List.map, List.cons_append, List.nil_append]
      walk_at "DS"
      walk_at "EXS"
    case r => rfl
  case qr => rfl
  case qh => rfl
end
end
local macro_rules | `(tactic| walk_at "CL") => wTab "U push_choice_ok HY HY HY HY HY HY"
section
section
variable {S : St0}
theorem set_alternative_ok {b : Bool} {d : Nat} {H1 H2 : Hp} {m : Mc} {k a : Int} (h0 : 0 ≤ m.b) (hb : m.b < 90000) (hk : m.stk[m.b.toNat]? = some (.int k)) (h1 : 0 ≤ m.b + k + 4) (h2 : m.b + k + 4 < 90000) (h3 : (m.b + k + 4).toNat < m.stk.length) : Cl S.W b (d + 2) a_Areas_set_alternative [.obj H1.length, .int a] (MH H1 m H2) (.none) (MH H1 (m.w_stk (m.stk.set (m.b + k + 4).toNat (.int a))) H2) := by
  refine' Cl.eq ?cl ?qr ?qh
  case cl =>
    refine' Cl.ofBody (ps := [Str.ofString "self", Str.ofString "address"]) (ls := [Str.ofString "stack"]) ?f ?cd ?bi ?lo ?n ?nd ?ce ?co ?ge ?k ?h ?r
    case f => exact rfl
    case cd => kernel_rfl
    case bi =>
      intro us hu
      obtain ⟨u0, u1, rfl⟩ := usIs2 hu
      rfl
    case lo => kernel_rfl
    case n => rfl
    case nd => decide +kernel
    case ce => decide +kernel
    case co => rfl
    case ge => rfl
    case k => rfl
    case h =>
      dsimp only [startFr, List.map, List.cons_append, List.nil_append]
      walk_at "DS"
      walk_at "EXS"
    case r => rfl
  case qr => rfl
  case qh => rfl
end
end
local macro_rules | `(tactic| walk_at "CL") => wTab "U set_alternative_ok HY HY HY HY HY HY"
section
section
variable {S : St0}
theorem undo_0 {b : Bool} {d : Nat} {H1 H2 : Hp} {m : Mc} {n : Int} (h : ¬ n < (m.trl.length : Int)) (hl : m.trl.length ≤ 90000) : Cl S.W b (d + 3) a_Cells_undo_to [.obj (H1.length + 1), .int n] (MH H1 m H2) (.none) (MH H1 m H2) := by
  refine' Cl.eq ?cl ?qr ?qh
  case cl =>
    refine' Cl.ofBody (ps := [Str.ofString "self", Str.ofString "mark"]) (ls := [Str.ofString "entry", Str.ofString "slot"]) ?f ?cd ?bi ?lo ?n ?nd ?ce ?co ?ge ?k ?h ?r
    case f => exact rfl
    case cd => kernel_rfl
    case bi =>
      intro us hu
      obtain ⟨u0, u1, rfl⟩ := usIs2 hu
      rfl
    case lo => kernel_rfl
    case n => rfl
    case nd => decide +kernel
    case ce => decide +kernel
    case co => rfl
    case ge => rfl
    case k => rfl
    case h =>
      dsimp only [startFr, List.map, List.cons_append, List.nil_append]
      walk_at "DS"
      walk_at "EXS"
    case r => rfl
  case qr => rfl
  case qh => rfl
end
end
local macro_rules | `(tactic| walk_at "CL") => wTab "U undo_0 HY HY"
local macro_rules | `(tactic| walk_at "ST") => wTab "R Ex.while =1 W1"
section
section
variable {S : St0}
theorem undo_1 {b : Bool} {d : Nat} {H1 H2 : Hp} {m : Mc} {n k : Int} {tl : List AV} (hm : n = (tl.length : Int)) (hl : tl.length ≤ 80000) (h0 : 0 ≤ k) (h1 : k < (m.hp.length : Int)) (h2 : k < 90000) : Cl S.W b (d + 3) a_Cells_undo_to [.obj (H1.length + 1), .int n] (MH H1 (m.w_trl (tl ++ [.int k])) H2) (.none) (MH H1 ((m.w_trl tl).w_hp (m.hp.set k.toNat (.tup [.int 0, .int k]))) H2) := by
  have hz : n < ((tl ++ [AV.int k]).length : Int) := by rw [List.length_append, List.length_singleton]; omega
  have hz2 : (tl ++ [AV.int k]).length ≤ 90000 := by rw [List.length_append, List.length_singleton]; omega
  have hz3 : ¬ n < (tl.length : Int) := by omega
  refine' Cl.eq ?cl ?qr ?qh
  case cl =>
    refine' Cl.ofBody (ps := [Str.ofString "self", Str.ofString "mark"]) (ls := [Str.ofString "entry", Str.ofString "slot"]) ?f ?cd ?bi ?lo ?n ?nd ?ce ?co ?ge ?k ?h ?r
    case f => exact rfl
    case cd => kernel_rfl
    case bi =>
      intro us hu
      obtain ⟨u0, u1, rfl⟩ := usIs2 hu
      rfl
    case lo => kernel_rfl
    case n => rfl
    case nd => decide +kernel
    case ce => decide +kernel
    case co => rfl
    case ge => rfl
    case k => rfl
    case h =>
      dsimp only [startFr, List.map, List.cons_append, List.nil_append]
      walk_at "DS"
      walk_at "EXS"
    case r => rfl
  case qr => rfl
  case qh => rfl
end
end
local macro_rules | `(tactic| walk_at "CL") => wTab "U undo_1 HY HY HY HY HY"
section
section
variable {S : St0}
theorem undo_1h {b : Bool} {d : Nat} {H1 H2 : Hp} {m : Mc} {n k : Int} {tl : List AV} (hT : m.trl = tl ++ [.int k]) (hm : n = (tl.length : Int)) (hl : tl.length ≤ 80000) (h0 : 0 ≤ k) (h1 : k < (m.hp.length : Int)) (h2 : k < 90000) : Cl S.W b (d + 3) a_Cells_undo_to [.obj (H1.length + 1), .int n] (MH H1 m H2) .none (MH H1 ((m.w_trl tl).w_hp (m.hp.set k.toNat (.tup [.int 0, .int k]))) H2) := by
  have e : m = m.w_trl (tl ++ [.int k]) := by
    show m = { m with trl := _ }
    rw [← hT]
  have := undo_1 (S := S) (b := b) (d := d) (H1 := H1) (H2 := H2) (m := m) hm hl h0 h1 h2
  rw [← e] at this
  exact this
end
end
local macro_rules | `(tactic| walk_at "CL") => wTab "U undo_1h HY HY HY HY HY HY"
section
section
variable {S : St0}
theorem trim_ok {b : Bool} {d : Nat} {H1 H2 : Hp} {m : Mc} {n : Int} (h : n = (m.hp.length : Int)) (hl : m.hp.length ≤ 90000) : Cl S.W b (d + 2) a_Cells_trim [.obj (H1.length + 1), .int n] (MH H1 m H2) (.none) (MH H1 m H2) := by
  refine' Cl.eq ?cl ?qr ?qh
  case cl =>
    refine' Cl.ofBody (ps := [Str.ofString "self", Str.ofString "h"]) (ls := []) ?f ?cd ?bi ?lo ?n ?nd ?ce ?co ?ge ?k ?h ?r
    case f => exact rfl
    case cd => kernel_rfl
    case bi =>
      intro us hu
      obtain ⟨u0, u1, rfl⟩ := usIs2 hu
      rfl
    case lo => kernel_rfl
    case n => rfl
    case nd => decide +kernel
    case ce => decide +kernel
    case co => rfl
    case ge => rfl
    case k => rfl
    case h =>
      dsimp only [startFr, List.map, List.cons_append, List.nil_append]
      walk_at "DS"
      walk_at "EXS"
    case r => rfl
  case qr => rfl
  case qh => rfl
end
end
local macro_rules | `(tactic| walk_at "CL") => wTab "U trim_ok HY HY"
section
section
variable {S : St0}
theorem restore_0 {d : Nat} {H1 H2 : Hp} {m : Mc} {v : AV} {ee cc n hn : Int} (hb0 : 0 ≤ m.b) (hb1 : m.b < 80000) (hk : m.stk[m.b.toNat]? = some (.int 1)) (hx : m.stk[(m.b + 1).toNat]? = some v) (hxl : 1 < m.xs.length) (hxl2 : m.xs.length ≤ 90000) (he : m.stk[(m.b + 1 + 1).toNat]? = some (.int ee)) (hcp : m.stk[(m.b + 1 + 2).toNat]? = some (.int cc)) (ht : m.stk[(m.b + 1 + 5).toNat]? = some (.int n)) (hh : m.stk[(m.b + 1 + 6).toNat]? = some (.int hn)) (hhn : hn = (m.hp.length : Int)) (hl : m.hp.length ≤ 90000) (h : ¬ n < (m.trl.length : Int)) (hlt : m.trl.length ≤ 90000) : Cl S.W true (d + 5) a_Areas_restore_choice [.obj H1.length] (MH H1 m H2) (.none) (MH H1 (((m.w_xs (m.xs.set (1 : Int).toNat v)).w_e ee).w_cp cc) H2) := by
  refine' Cl.eq ?cl ?qr ?qh
  case cl =>
    refine' Cl.ofBody (ps := [Str.ofString "self"]) (ls := [Str.ofString "store", Str.ofString "count", Str.ofString "i"]) ?f ?cd ?bi ?lo ?n ?nd ?ce ?co ?ge ?k ?h ?r
    case f => exact rfl
    case cd => kernel_rfl
    case bi =>
      intro us hu
      obtain ⟨u0, rfl⟩ := usIs1 hu
      rfl
    case lo => kernel_rfl
    case n => rfl
    case nd => decide +kernel
    case ce => decide +kernel
    case co => rfl
    case ge => rfl
    case k => rfl
    case h =>
      dsimp only [startFr, List.map, List.cons_append, List.nil_append]
      walk_at "DS"
      walk_at "EXS"
    case r => rfl
  case qr => rfl
  case qh => rfl
end
end
local macro_rules | `(tactic| walk_at "CL") => wTab "U restore_0 HY HY HY HY HY HY HY HY HY HY HY HY HY HY"
section
section
variable {S : St0}
theorem restore_1 {d : Nat} {H1 H2 : Hp} {m : Mc} {v : AV} {ee cc n hn k : Int} {tl : List AV} (hb0 : 0 ≤ m.b) (hb1 : m.b < 80000) (hk : m.stk[m.b.toNat]? = some (.int 1)) (hx : m.stk[(m.b + 1).toNat]? = some v) (hxl : 1 < m.xs.length) (hxl2 : m.xs.length ≤ 90000) (he : m.stk[(m.b + 1 + 1).toNat]? = some (.int ee)) (hcp : m.stk[(m.b + 1 + 2).toNat]? = some (.int cc)) (ht : m.stk[(m.b + 1 + 5).toNat]? = some (.int n)) (hh : m.stk[(m.b + 1 + 6).toNat]? = some (.int hn)) (hhn : hn = (m.hp.length : Int)) (hl : m.hp.length ≤ 90000) (hT : m.trl = tl ++ [.int k]) (hm : n = (tl.length : Int)) (hlt : tl.length ≤ 80000) (h0 : 0 ≤ k) (h1 : k < (m.hp.length : Int)) (h2 : k < 90000) : Cl S.W true (d + 5) a_Areas_restore_choice [.obj H1.length] (MH H1 m H2) (.none) (MH H1 (((((m.w_xs (m.xs.set (1 : Int).toNat v)).w_e ee).w_cp cc).w_trl tl).w_hp (m.hp.set k.toNat (.tup [.int 0, .int k]))) H2) := by
  have hhs : hn = ((m.hp.set k.toNat (AV.tup [.int 0, .int k])).length : Int) := by rw [List.length_set]; exact hhn
  have hhs2 : (m.hp.set k.toNat (AV.tup [.int 0, .int k])).length ≤ 90000 := by rw [List.length_set]; exact hl
  refine' Cl.eq ?cl ?qr ?qh
  case cl =>
    refine' Cl.ofBody (ps := [Str.ofString "self"]) (ls := [Str.ofString "store", Str.ofString "count", Str.ofString "i"]) ?f ?cd ?bi ?lo ?n ?nd ?ce ?co ?ge ?k ?h ?r
    case f => exact rfl
    case cd => kernel_rfl
    case bi =>
      intro us hu
      obtain ⟨u0, rfl⟩ := usIs1 hu
      rfl
    case lo => kernel_rfl
    case n => rfl
    case nd => decide +kernel
    case ce => decide +kernel
    case co => rfl
    case ge => rfl
    case k => rfl
    case h =>
      dsimp only [startFr, List.map, List.cons_append, List.nil_append]
      walk_at "DS"
      walk_at "EXS"
    case r => rfl
  case qr => rfl
  case qh => rfl
end
end
local macro_rules | `(tactic| walk_at "CL") => wTab "U restore_1 HY HY HY HY HY HY HY HY HY HY HY HY HY HY HY HY HY HY"
section
section
variable {S : St0}
theorem pop_choice_neg {b : Bool} {d : Nat} {H1 H2 : Hp} {m : Mc} {k q : Int} (h0 : 0 ≤ m.b) (hb : m.b < 90000) (hk : m.stk[m.b.toNat]? = some (.int k)) (h1 : 0 ≤ m.b + k + 3) (h2 : m.b + k + 3 < 90000) (hv : m.stk[(m.b + k + 3).toNat]? = some (.int q)) (h3 : q < 0) : Cl S.W b (d + 5) a_Areas_pop_choice [.obj H1.length] (MH H1 m H2) (.none) (MH H1 (((m.w_b q).w_hb 0).w_bb 0) H2) := by
  refine' Cl.eq ?cl ?qr ?qh
  case cl =>
    refine' Cl.ofBody (ps := [Str.ofString "self"]) (ls := []) ?f ?cd ?bi ?lo ?n ?nd ?ce ?co ?ge ?k ?h ?r
    case f => exact rfl
    case cd => kernel_rfl
    case bi =>
      intro us hu
      obtain ⟨u0, rfl⟩ := usIs1 hu
      rfl
    case lo => kernel_rfl
    case n => rfl
    case nd => decide +kernel
    case ce => decide +kernel
    case co => rfl
    case ge => rfl
    case k => rfl
    case h =>
      dsimp only [startFr, List.map, List.cons_append, List.nil_append]
      walk_at "DS"
      walk_at "EXS"
    case r => rfl
  case qr => rfl
  case qh => rfl
end
end
local macro_rules | `(tactic| walk_at "CL") => wTab "U pop_choice_neg HY HY HY HY HY HY HY"
section
section
variable {S : St0}
theorem pop_choice_pos {b : Bool} {d : Nat} {H1 H2 : Hp} {m : Mc} {k q k2 z : Int} (h0 : 0 ≤ m.b) (hb : m.b < 90000) (hk : m.stk[m.b.toNat]? = some (.int k)) (h1 : 0 ≤ m.b + k + 3) (h2 : m.b + k + 3 < 90000) (hv : m.stk[(m.b + k + 3).toNat]? = some (.int q)) (h3 : ¬ q < 0) (h4 : q < 90000) (hk2 : m.stk[q.toNat]? = some (.int k2)) (h5 : 0 ≤ q + k2 + 6) (h6 : q + k2 + 6 < 90000) (hv2 : m.stk[(q + k2 + 6).toNat]? = some (.int z)) : Cl S.W b (d + 5) a_Areas_pop_choice [.obj H1.length] (MH H1 m H2) (.none) (MH H1 (((m.w_b q).w_hb z).w_bb q) H2) := by
  refine' Cl.eq ?cl ?qr ?qh
  case cl =>
    refine' Cl.ofBody (ps := [Str.ofString "self"]) (ls := []) ?f ?cd ?bi ?lo ?n ?nd ?ce ?co ?ge ?k ?h ?r
    case f => exact rfl
    case cd => kernel_rfl
    case bi =>
      intro us hu
      obtain ⟨u0, rfl⟩ := usIs1 hu
      rfl
    case lo => kernel_rfl
    case n => rfl
    case nd => decide +kernel
    case ce => decide +kernel
    case co => rfl
    case ge => rfl
    case k => rfl
    case h =>
      dsimp only [startFr, List.map, List.cons_append, List.nil_append]
      walk_at "DS"
      walk_at "EXS"
    case r => rfl
  case qr => rfl
  case qh => rfl
end
end
local macro_rules | `(tactic| walk_at "CL") => wTab "U pop_choice_pos HY HY HY HY HY HY HY HY HY HY HY HY"
section
section
variable {S : St0}
theorem cut_back_no {b : Bool} {d : Nat} {H1 H2 : Hp} {m : Mc} {q : Int} (h : ¬ q < m.b) : Cl S.W b (d + 5) a_Areas_cut_back [.obj H1.length, .int q] (MH H1 m H2) (.none) (MH H1 m H2) := by
  refine' Cl.eq ?cl ?qr ?qh
  case cl =>
    refine' Cl.ofBody (ps := [Str.ofString "self", Str.ofString "b"]) (ls := []) ?f ?cd ?bi ?lo ?n ?nd ?ce ?co ?ge ?k ?h ?r
    case f => exact rfl
    case cd => kernel_rfl
    case bi =>
      intro us hu
      obtain ⟨u0, u1, rfl⟩ := usIs2 hu
      rfl
    case lo => kernel_rfl
    case n => rfl
    case nd => decide +kernel
    case ce => decide +kernel
    case co => rfl
    case ge => rfl
    case k => rfl
    case h =>
      dsimp only [startFr, List.map, List.cons_append, List.nil_append]
      walk_at "DS"
      walk_at "EXS"
    case r => rfl
  case qr => rfl
  case qh => rfl
end
end
local macro_rules | `(tactic| walk_at "CL") => wTab "U cut_back_no HY"
section
section
variable {S : St0}
theorem cut_back_neg {b : Bool} {d : Nat} {H1 H2 : Hp} {m : Mc} {q : Int} (h : q < m.b) (h3 : q < 0) : Cl S.W b (d + 5) a_Areas_cut_back [.obj H1.length, .int q] (MH H1 m H2) (.none) (MH H1 (((m.w_b q).w_hb 0).w_bb 0) H2) := by
  refine' Cl.eq ?cl ?qr ?qh
  case cl =>
    refine' Cl.ofBody (ps := [Str.ofString "self", Str.ofString "b"]) (ls := []) ?f ?cd ?bi ?lo ?n ?nd ?ce ?co ?ge ?k ?h ?r
    case f => exact rfl
    case cd => kernel_rfl
    case bi =>
      intro us hu
      obtain ⟨u0, u1, rfl⟩ := usIs2 hu
      rfl
    case lo => kernel_rfl
    case n => rfl
    case nd => decide +kernel
    case ce => decide +kernel
    case co => rfl
    case ge => rfl
    case k => rfl
    case h =>
      dsimp only [startFr, List.map, List.cons_append, List.nil_append]
      walk_at "DS"
      walk_at "EXS"
    case r => rfl
  case qr => rfl
  case qh => rfl
end
end
local macro_rules | `(tactic| walk_at "CL") => wTab "U cut_back_neg HY HY"
section
section
variable {S : St0}
theorem cut_back_pos {b : Bool} {d : Nat} {H1 H2 : Hp} {m : Mc} {q k2 z : Int} (h : q < m.b) (h3 : ¬ q < 0) (h4 : q < 90000) (hk2 : m.stk[q.toNat]? = some (.int k2)) (h5 : 0 ≤ q + k2 + 6) (h6 : q + k2 + 6 < 90000) (hv2 : m.stk[(q + k2 + 6).toNat]? = some (.int z)) : Cl S.W b (d + 5) a_Areas_cut_back [.obj H1.length, .int q] (MH H1 m H2) (.none) (MH H1 (((m.w_b q).w_hb z).w_bb q) H2) := by
  refine' Cl.eq ?cl ?qr ?qh
  case cl =>
    refine' Cl.ofBody (ps := [Str.ofString "self", Str.ofString "b"]) (ls := []) ?f ?cd ?bi ?lo ?n ?nd ?ce ?co ?ge ?k ?h ?r
    case f => exact rfl
    case cd => kernel_rfl
    case bi =>
      intro us hu
      obtain ⟨u0, u1, rfl⟩ := usIs2 hu
      rfl
    case lo => kernel_rfl
    case n => rfl
    case nd => decide +kernel
    case ce => decide +kernel
    case co => rfl
    case ge => rfl
    case k => rfl
    case h =>
      dsimp only [startFr, List.map, List.cons_append, List.nil_append]
      walk_at "DS"
      walk_at "EXS"
    case r => rfl
  case qr => rfl
  case qh => rfl
end
end
local macro_rules | `(tactic| walk_at "CL") => wTab "U cut_back_pos HY HY HY HY HY HY HY"
section
section
variable {S : St0}
theorem deref_c {b : Bool} {d : Nat} {H1 H2 : Hp} {m : Mc} {t v : Int} (ht : ¬ t = 0) (ht1 : ¬ t = 1) : Cl S.W b (d + 3) a_Cells_deref [.obj (H1.length + 1), .tup [.int t, .int v]] (MH H1 m H2) (.tup [.int t, .int v]) (MH H1 m H2) := by
  refine' Cl.eq ?cl ?qr ?qh
  case cl =>
    refine' Cl.ofBody (ps := [Str.ofString "self", Str.ofString "cell"]) (ls := [Str.ofString "tag", Str.ofString "found"]) ?f ?cd ?bi ?lo ?n ?nd ?ce ?co ?ge ?k ?h ?r
    case f => exact rfl
    case cd => kernel_rfl
    case bi =>
      intro us hu
      obtain ⟨u0, u1, rfl⟩ := usIs2 hu
      rfl
    case lo => kernel_rfl
    case n => rfl
    case nd => decide +kernel
    case ce => decide +kernel
    case co => rfl
    case ge => rfl
    case k => rfl
    case h =>
      dsimp only [startFr, List.map, List.cons_append, List.nil_append]
      walk_at "DS"
      ((refine' Exs.ret ?a); (case a => ((with_reducible refine' Ex.while (n := 0) ?w); (case w => (refine' WT.ret ?t ?b; (case t => walk_at "TB"); (case b => walk_at "EXS"))))))
    case r => rfl
  case qr => rfl
  case qh => rfl
end
end
local macro_rules | `(tactic| walk_at "CL") => wTab "U deref_c HY HY"
section
section
variable {S : St0}
theorem deref_u {b : Bool} {d : Nat} {H1 H2 : Hp} {m : Mc} {a : Int} (h0 : 0 ≤ a) (h1 : a < 90000) (hx : m.hp[a.toNat]? = some (.tup [.int 0, .int a])) : Cl S.W b (d + 3) a_Cells_deref [.obj (H1.length + 1), .tup [.int 0, .int a]] (MH H1 m H2) (.tup [.int 0, .int a]) (MH H1 m H2) := by
  refine' Cl.eq ?cl ?qr ?qh
  case cl =>
    refine' Cl.ofBody (ps := [Str.ofString "self", Str.ofString "cell"]) (ls := [Str.ofString "tag", Str.ofString "found"]) ?f ?cd ?bi ?lo ?n ?nd ?ce ?co ?ge ?k ?h ?r
    case f => exact rfl
    case cd => kernel_rfl
    case bi =>
      intro us hu
      obtain ⟨u0, u1, rfl⟩ := usIs2 hu
      rfl
    case lo => kernel_rfl
    case n => rfl
    case nd => decide +kernel
    case ce => decide +kernel
    case co => rfl
    case ge => rfl
    case k => rfl
    case h =>
      dsimp only [startFr, List.map, List.cons_append, List.nil_append]
      walk_at "DS"
      ((refine' Exs.ret ?a); (case a => ((with_reducible refine' Ex.while (n := 0) ?w); (case w => (refine' WT.ret ?t ?b; (case t => walk_at "TB"); (case b => walk_at "EXS"))))))
    case r => rfl
  case qr => rfl
  case qh => rfl
end
end
local macro_rules | `(tactic| walk_at "CL") => wTab "U deref_u HY HY HY"
section
section
variable {S : St0}
theorem deref_b {b : Bool} {d : Nat} {H1 H2 : Hp} {m : Mc} {a t v : Int} (h0 : 0 ≤ a) (h1 : a < 90000) (ht : ¬ t = 0) (ht1 : ¬ t = 1) (hx : m.hp[a.toNat]? = some (.tup [.int t, .int v])) : Cl S.W b (d + 3) a_Cells_deref [.obj (H1.length + 1), .tup [.int 0, .int a]] (MH H1 m H2) (.tup [.int t, .int v]) (MH H1 m H2) := by
  refine' Cl.eq ?cl ?qr ?qh
  case cl =>
    refine' Cl.ofBody (ps := [Str.ofString "self", Str.ofString "cell"]) (ls := [Str.ofString "tag", Str.ofString "found"]) ?f ?cd ?bi ?lo ?n ?nd ?ce ?co ?ge ?k ?h ?r
    case f => exact rfl
    case cd => kernel_rfl
    case bi =>
      intro us hu
      obtain ⟨u0, u1, rfl⟩ := usIs2 hu
      rfl
    case lo => kernel_rfl
    case n => rfl
    case nd => decide +kernel
    case ce => decide +kernel
    case co => rfl
    case ge => rfl
    case k => rfl
    case h =>
      dsimp only [startFr, List.map, List.cons_append, List.nil_append]
      walk_at "DS"
      ((refine' Exs.ret ?a); (case a => ((with_reducible refine' Ex.while (n := 1) ?w); (case w => (refine' WT.turn ?t ?b ?w; (case t => walk_at "TB"); (case b => walk_at "EXS"); (case w => walk_at "DS"; (refine' WT.ret ?t ?b; (case t => walk_at "TB"); (case b => walk_at "EXS"))))))))
    case r => rfl
  case qr => rfl
  case qh => rfl
end
end
local macro_rules | `(tactic| walk_at "CL") => wTab "U deref_b HY HY HY HY HY"
section
section
variable {S : St0}
theorem bind_0 {b : Bool} {d : Nat} {H1 H2 : Hp} {m : Mc} {a : Int} {c : AV} (h0 : 0 ≤ a) (h1 : a < 90000) (hl : a < (m.hp.length : Int)) (h : ¬ a < m.hb) : Cl S.W b (d + 3) a_Cells_bind [.obj (H1.length + 1), .tup [.int 0, .int a], c] (MH H1 m H2) (.none) (MH H1 (m.w_hp (m.hp.set a.toNat c)) H2) := by
  refine' Cl.eq ?cl ?qr ?qh
  case cl =>
    refine' Cl.ofBody (ps := [Str.ofString "self", Str.ofString "cell", Str.ofString "value"]) (ls := [Str.ofString "place"]) ?f ?cd ?bi ?lo ?n ?nd ?ce ?co ?ge ?k ?h ?r
    case f => exact rfl
    case cd => kernel_rfl
    case bi =>
      intro us hu
      obtain ⟨u0, u1, u2, rfl⟩ := usIs3 hu
      rfl
    case lo => kernel_rfl
    case n => rfl
    case nd => decide +kernel
    case ce => decide +kernel
    case co => rfl
    case ge => rfl
    case k => rfl
    case h =>
      dsimp only [startFr, List.map, List.cons_append, List.nil_append]
      walk_at "DS"
      walk_at "EXS"
    case r => rfl
  case qr => rfl
  case qh => rfl
end
end
local macro_rules | `(tactic| walk_at "CL") => wTab "U bind_0 HY HY HY HY"
section
section
variable {S : St0}
theorem bind_1 {b : Bool} {d : Nat} {H1 H2 : Hp} {m : Mc} {a : Int} {c : AV} (h0 : 0 ≤ a) (h1 : a < 90000) (hl : a < (m.hp.length : Int)) (h : a < m.hb) (hlt : m.trl.length ≤ 90000) : Cl S.W b (d + 3) a_Cells_bind [.obj (H1.length + 1), .tup [.int 0, .int a], c] (MH H1 m H2) (.none) (MH H1 ((m.w_hp (m.hp.set a.toNat c)).w_trl (m.trl ++ [.int a])) H2) := by
  refine' Cl.eq ?cl ?qr ?qh
  case cl =>
    refine' Cl.ofBody (ps := [Str.ofString "self", Str.ofString "cell", Str.ofString "value"]) (ls := [Str.ofString "place"]) ?f ?cd ?bi ?lo ?n ?nd ?ce ?co ?ge ?k ?h ?r
    case f => exact rfl
    case cd => kernel_rfl
    case bi =>
      intro us hu
      obtain ⟨u0, u1, u2, rfl⟩ := usIs3 hu
      rfl
    case lo => kernel_rfl
    case n => rfl
    case nd => decide +kernel
    case ce => decide +kernel
    case co => rfl
    case ge => rfl
    case k => rfl
    case h =>
      dsimp only [startFr, List.map, List.cons_append, List.nil_append]
      walk_at "DS"
      walk_at "EXS"
    case r => rfl
  case qr => rfl
  case qh => rfl
end
end
local macro_rules | `(tactic| walk_at "CL") => wTab "U bind_1 HY HY HY HY HY"
section
section
variable {S : St0}
theorem match_c {b : Bool} {d : Nat} {H1 H2 : Hp} {m : Mc} {t v t2 v2 : Int} (ht : ¬ t = 0) (ht1 : ¬ t = 1) : Cl S.W b (d + 5) a_match_constant [.obj H1.length, .tup [.int t, .int v], .tup [.int t2, .int v2]] (MH H1 m H2) (.bool (t == t2 && v == v2)) (MH H1 m H2) := by
  refine' Cl.eq ?cl ?qr ?qh
  case cl =>
    refine' Cl.ofBody (ps := [Str.ofString "m", Str.ofString "cell", Str.ofString "constant"]) (ls := [Str.ofString "found"]) ?f ?cd ?bi ?lo ?n ?nd ?ce ?co ?ge ?k ?h ?r
    case f => exact rfl
    case cd => kernel_rfl
    case bi =>
      intro us hu
      obtain ⟨u0, u1, u2, rfl⟩ := usIs3 hu
      rfl
    case lo => kernel_rfl
    case n => rfl
    case nd => decide +kernel
    case ce => decide +kernel
    case co => rfl
    case ge => rfl
    case k => rfl
    case h =>
      dsimp only [startFr, List.map, List.cons_append, List.nil_append]
      walk_at "DS"
      walk_at "EXS"
    case r => rfl
  case qr => rfl
  case qh => rfl
end
end
local macro_rules | `(tactic| walk_at "CL") => wTab "U match_c HY HY"
section
section
variable {S : St0}
theorem match_b {b : Bool} {d : Nat} {H1 H2 : Hp} {m : Mc} {a t v t2 v2 : Int} (h0 : 0 ≤ a) (h1 : a < 90000) (ht : ¬ t = 0) (ht1 : ¬ t = 1) (hx : m.hp[a.toNat]? = some (.tup [.int t, .int v])) : Cl S.W b (d + 5) a_match_constant [.obj H1.length, .tup [.int 0, .int a], .tup [.int t2, .int v2]] (MH H1 m H2) (.bool (t == t2 && v == v2)) (MH H1 m H2) := by
  refine' Cl.eq ?cl ?qr ?qh
  case cl =>
    refine' Cl.ofBody (ps := [Str.ofString "m", Str.ofString "cell", Str.ofString "constant"]) (ls := [Str.ofString "found"]) ?f ?cd ?bi ?lo ?n ?nd ?ce ?co ?ge ?k ?h ?r
    case f => exact rfl
    case cd => kernel_rfl
    case bi =>
      intro us hu
      obtain ⟨u0, u1, u2, rfl⟩ := usIs3 hu
      rfl
    case lo => kernel_rfl
    case n => rfl
    case nd => decide +kernel
    case ce => decide +kernel
    case co => rfl
    case ge => rfl
    case k => rfl
    case h =>
      dsimp only [startFr, List.map, List.cons_append, List.nil_append]
      walk_at "DS"
      walk_at "EXS"
    case r => rfl
  case qr => rfl
  case qh => rfl
end
end
local macro_rules | `(tactic| walk_at "CL") => wTab "U match_b HY HY HY HY HY"
section
section
variable {S : St0}
theorem match_u0 {b : Bool} {d : Nat} {H1 H2 : Hp} {m : Mc} {a : Int} {c : AV} (h0 : 0 ≤ a) (h1 : a < 90000) (hl : a < (m.hp.length : Int)) (hx : m.hp[a.toNat]? = some (.tup [.int 0, .int a])) (h : ¬ a < m.hb) : Cl S.W b (d + 5) a_match_constant [.obj H1.length, .tup [.int 0, .int a], c] (MH H1 m H2) (.bool true) (MH H1 (m.w_hp (m.hp.set a.toNat c)) H2) := by
  refine' Cl.eq ?cl ?qr ?qh
  case cl =>
    refine' Cl.ofBody (ps := [Str.ofString "m", Str.ofString "cell", Str.ofString "constant"]) (ls := [Str.ofString "found"]) ?f ?cd ?bi ?lo ?n ?nd ?ce ?co ?ge ?k ?h ?r
    case f => exact rfl
    case cd => kernel_rfl
    case bi =>
      intro us hu
      obtain ⟨u0, u1, u2, rfl⟩ := usIs3 hu
      rfl
    case lo => kernel_rfl
    case n => rfl
    case nd => decide +kernel
    case ce => decide +kernel
    case co => rfl
    case ge => rfl
    case k => rfl
    case h =>
      dsimp only [startFr, List.map, List.cons_append, List.nil_append]
      walk_at "DS"
      walk_at "EXS"
    case r => rfl
  case qr => rfl
  case qh => rfl
end
end
local macro_rules | `(tactic| walk_at "CL") => wTab "U match_u0 HY HY HY HY HY"
section
section
variable {S : St0}
theorem match_u1 {b : Bool} {d : Nat} {H1 H2 : Hp} {m : Mc} {a : Int} {c : AV} (h0 : 0 ≤ a) (h1 : a < 90000) (hl : a < (m.hp.length : Int)) (hx : m.hp[a.toNat]? = some (.tup [.int 0, .int a])) (h : a < m.hb) (hlt : m.trl.length ≤ 90000) : Cl S.W b (d + 5) a_match_constant [.obj H1.length, .tup [.int 0, .int a], c] (MH H1 m H2) (.bool true) (MH H1 ((m.w_hp (m.hp.set a.toNat c)).w_trl (m.trl ++ [.int a])) H2) := by
  refine' Cl.eq ?cl ?qr ?qh
  case cl =>
    refine' Cl.ofBody (ps := [Str.ofString "m", Str.ofString "cell", Str.ofString "constant"]) (ls := [Str.ofString "found"]) ?f ?cd ?bi ?lo ?n ?nd ?ce ?co ?ge ?k ?h ?r
    case f => exact rfl
    case cd => kernel_rfl
    case bi =>
      intro us hu
      obtain ⟨u0, u1, u2, rfl⟩ := usIs3 hu
      rfl
    case lo => kernel_rfl
    case n => rfl
    case nd => decide +kernel
    case ce => decide +kernel
    case co => rfl
    case ge => rfl
    case k => rfl
    case h =>
      dsimp only [startFr, List.map, List.cons_append, List.nil_append]
      walk_at "DS"
      walk_at "EXS"
    case r => rfl
  case qr => rfl
  case qh => rfl
end
end
local macro_rules | `(tactic| walk_at "CL") => wTab "U match_u1 HY HY HY HY HY HY"
section
section
variable {S : St0}
theorem write_x {b : Bool} {d : Nat} {H1 H2 : Hp} {m : Mc} {n : Int} {c : AV} (h0 : 0 ≤ n) (hn : n < (m.xs.length : Int)) (hl : m.xs.length ≤ 90000) : Cl S.W b (d + 5) a_write [.obj H1.length, .tup [.str "x", .int n], c] (MH H1 m H2) (.none) (MH H1 (m.w_xs (m.xs.set n.toNat c)) H2) := by
  refine' Cl.eq ?cl ?qr ?qh
  case cl =>
    refine' Cl.ofBody (ps := [Str.ofString "m", Str.ofString "operand", Str.ofString "cell"]) (ls := [Str.ofString "index"]) ?f ?cd ?bi ?lo ?n ?nd ?ce ?co ?ge ?k ?h ?r
    case f => exact rfl
    case cd => kernel_rfl
    case bi =>
      intro us hu
      obtain ⟨u0, u1, u2, rfl⟩ := usIs3 hu
      rfl
    case lo => kernel_rfl
    case n => rfl
    case nd => decide +kernel
    case ce => decide +kernel
    case co => rfl
    case ge => rfl
    case k => rfl
    case h =>
      dsimp only [startFr, List.map, List.cons_append, List.nil_append]
      walk_at "DS"
      walk_at "EXS"
    case r => rfl
  case qr => rfl
  case qh => rfl
end
end
local macro_rules | `(tactic| walk_at "CL") => wTab "U write_x HY HY HY"
section
section
variable {S : St0}
theorem write_y {b : Bool} {d : Nat} {H1 H2 : Hp} {m : Mc} {n : Int} {c : AV} (h : ¬ m.e + 1 + n < m.bb) (h0 : 0 ≤ m.e + 1 + n) (hi : m.e + 1 + n ≤ (m.stk.length : Int)) (hl : m.stk.length ≤ 90000) : Cl S.W b (d + 5) a_write [.obj H1.length, .tup [.str "y", .int n], c] (MH H1 m H2) (.none) (MH H1 (m.w_stk (sput m.stk (m.e + 1 + n) c)) H2) := by
  refine' Cl.eq ?cl ?qr ?qh
  case cl =>
    refine' Cl.ofBody (ps := [Str.ofString "m", Str.ofString "operand", Str.ofString "cell"]) (ls := [Str.ofString "index"]) ?f ?cd ?bi ?lo ?n ?nd ?ce ?co ?ge ?k ?h ?r
    case f => exact rfl
    case cd => kernel_rfl
    case bi =>
      intro us hu
      obtain ⟨u0, u1, u2, rfl⟩ := usIs3 hu
      rfl
    case lo => kernel_rfl
    case n => rfl
    case nd => decide +kernel
    case ce => decide +kernel
    case co => rfl
    case ge => rfl
    case k => rfl
    case h =>
      dsimp only [startFr, List.map, List.cons_append, List.nil_append]
      walk_at "DS"
      walk_at "EXS"
    case r => rfl
  case qr => rfl
  case qh => rfl
end
end
local macro_rules | `(tactic| walk_at "CL") => wTab "U write_y HY HY HY HY"
section
section
variable {S : St0}
theorem backtrack_no {b : Bool} {d : Nat} {H1 H2 : Hp} {m : Mc} (h : m.b < 0) : Cl S.W b (d + 5) a_Emulator_backtrack [.obj H1.length] (MH H1 m H2) (.none) (MH H1 ((m.w_failed true).w_halted true) H2) := by
  refine' Cl.eq ?cl ?qr ?qh
  case cl =>
    refine' Cl.ofBody (ps := [Str.ofString "self"]) (ls := []) ?f ?cd ?bi ?lo ?n ?nd ?ce ?co ?ge ?k ?h ?r
    case f => exact rfl
    case cd => kernel_rfl
    case bi =>
      intro us hu
      obtain ⟨u0, rfl⟩ := usIs1 hu
      rfl
    case lo => kernel_rfl
    case n => rfl
    case nd => decide +kernel
    case ce => decide +kernel
    case co => rfl
    case ge => rfl
    case k => rfl
    case h =>
      dsimp only [startFr, List.map, List.cons_append, List.nil_append]
      walk_at "DS"
      walk_at "EXS"
    case r => rfl
  case qr => rfl
  case qh => rfl
end
end
local macro_rules | `(tactic| walk_at "CL") => wTab "U backtrack_no HY"
section
section
variable {S : St0}
theorem backtrack_yes {b : Bool} {d : Nat} {H1 H2 : Hp} {m : Mc} {k q z : Int} (h0 : 0 ≤ m.b) (hb : m.b < 80000) (hk : m.stk[m.b.toNat]? = some (.int k)) (h1 : 0 ≤ k) (h2 : m.b + k + 7 < 90000) (hv : m.stk[(m.b + k + 7).toNat]? = some (.int q)) (hv2 : m.stk[(m.b + k + 4).toNat]? = some (.int z)) : Cl S.W b (d + 5) a_Emulator_backtrack [.obj H1.length] (MH H1 m H2) (.none) (MH H1 ((m.w_b0 q).w_p z) H2) := by
  refine' Cl.eq ?cl ?qr ?qh
  case cl =>
    refine' Cl.ofBody (ps := [Str.ofString "self"]) (ls := []) ?f ?cd ?bi ?lo ?n ?nd ?ce ?co ?ge ?k ?h ?r
    case f => exact rfl
    case cd => kernel_rfl
    case bi =>
      intro us hu
      obtain ⟨u0, rfl⟩ := usIs1 hu
      rfl
    case lo => kernel_rfl
    case n => rfl
    case nd => decide +kernel
    case ce => decide +kernel
    case co => rfl
    case ge => rfl
    case k => rfl
    case h =>
      dsimp only [startFr, List.map, List.cons_append, List.nil_append]
      walk_at "DS"
      walk_at "EXS"
    case r => rfl
  case qr => rfl
  case qh => rfl
end
end
local macro_rules | `(tactic| walk_at "CL") => wTab "U backtrack_yes HY HY HY HY HY HY HY"
section
section
variable {S : St0}
theorem enter_ok {b : Bool} {d : Nat} {H1 H2 : Hp} {m : Mc} {f a : Int} {l : List (Int × AV)} (hc : H1[m.ke]? = some (.idict l)) (hm : (f, AV.int a) ∈ l) : Cl S.W b (d + 3) a_Emulator_enter [.obj H1.length, .int f] (MH H1 m H2) (.bool true) (MH H1 ((m.w_b0 m.b).w_p a) H2) := by
  refine' Cl.eq ?cl ?qr ?qh
  case cl =>
    refine' Cl.ofBody (ps := [Str.ofString "self", Str.ofString "f"]) (ls := [Str.ofString "entry"]) ?f ?cd ?bi ?lo ?n ?nd ?ce ?co ?ge ?k ?h ?r
    case f => exact rfl
    case cd => kernel_rfl
    case bi =>
      intro us hu
      obtain ⟨u0, u1, rfl⟩ := usIs2 hu
      rfl
    case lo => kernel_rfl
    case n => rfl
    case nd => decide +kernel
    case ce => decide +kernel
    case co => rfl
    case ge => rfl
    case k => rfl
    case h =>
      dsimp only [startFr, List.map, List.cons_append, List.nil_append]
      walk_at "DS"
      walk_at "EXS"
    case r => rfl
  case qr => rfl
  case qh => rfl
end
end
local macro_rules | `(tactic| walk_at "CL") => wTab "U enter_ok HY HY"
local macro_rules | `(tactic| walk_at "EV") => wTab "R Ev.slice EV E E HK NN 2"
section
section
variable {S : St0}
theorem do_proceed_ok {b : Bool} {d : Nat} {H1 H2 : Hp} {m : Mc}  : Cl S.W b (d + 2) a_do_proceed [.obj H1.length, .tup [.str "proceed"]] (MH H1 m H2) (.bool true) (MH H1 (m.w_p m.cp) H2) := by
  refine' Cl.eq ?cl ?qr ?qh
  case cl =>
    refine' Cl.ofBody (ps := [Str.ofString "m", Str.ofString "ins"]) (ls := []) ?f ?cd ?bi ?lo ?n ?nd ?ce ?co ?ge ?k ?h ?r
    case f => exact rfl
    case cd => kernel_rfl
    case bi =>
      intro us hu
      obtain ⟨u0, u1, rfl⟩ := usIs2 hu
      rfl
    case lo => kernel_rfl
    case n => rfl
    case nd => decide +kernel
    case ce => decide +kernel
    case co => rfl
    case ge => rfl
    case k => rfl
    case h =>
      dsimp only [startFr, List.map, List.cons_append, List.nil_append]
      walk_at "DS"
      walk_at "EXS"
    case r => rfl
  case qr => rfl
  case qh => rfl
end
end
local macro_rules | `(tactic| walk_at "CL") => wTab "U do_proceed_ok"
section
section
variable {S : St0}
theorem do_halt_ok {b : Bool} {d : Nat} {H1 H2 : Hp} {m : Mc}  : Cl S.W b (d + 2) a_do_halt [.obj H1.length, .tup [.str "halt"]] (MH H1 m H2) (.bool true) (MH H1 (m.w_halted true) H2) := by
  refine' Cl.eq ?cl ?qr ?qh
  case cl =>
    refine' Cl.ofBody (ps := [Str.ofString "m", Str.ofString "ins"]) (ls := []) ?f ?cd ?bi ?lo ?n ?nd ?ce ?co ?ge ?k ?h ?r
    case f => exact rfl
    case cd => kernel_rfl
    case bi =>
      intro us hu
      obtain ⟨u0, u1, rfl⟩ := usIs2 hu
      rfl
    case lo => kernel_rfl
    case n => rfl
    case nd => decide +kernel
    case ce => decide +kernel
    case co => rfl
    case ge => rfl
    case k => rfl
    case h =>
      dsimp only [startFr, List.map, List.cons_append, List.nil_append]
      walk_at "DS"
      walk_at "EXS"
    case r => rfl
  case qr => rfl
  case qh => rfl
end
end
local macro_rules | `(tactic| walk_at "CL") => wTab "U do_halt_ok"
section
section
variable {S : St0}
theorem do_call_ok {b : Bool} {d : Nat} {H1 H2 : Hp} {m : Mc} {a : Int} {l : List (Int × AV)} (hc : H1[m.ke]? = some (.idict l)) (hm : ((1 : Int), AV.int a) ∈ l) : Cl S.W b (d + 4) a_do_call [.obj H1.length, .tup [.str "call", .int 1, .int 2]] (MH H1 m H2) (.bool true) (MH H1 (((m.w_cp m.p).w_b0 m.b).w_p a) H2) := by
  refine' Cl.eq ?cl ?qr ?qh
  case cl =>
    refine' Cl.ofBody (ps := [Str.ofString "m", Str.ofString "ins"]) (ls := []) ?f ?cd ?bi ?lo ?n ?nd ?ce ?co ?ge ?k ?h ?r
    case f => exact rfl
    case cd => kernel_rfl
    case bi =>
      intro us hu
      obtain ⟨u0, u1, rfl⟩ := usIs2 hu
      rfl
    case lo => kernel_rfl
    case n => rfl
    case nd => decide +kernel
    case ce => decide +kernel
    case co => rfl
    case ge => rfl
    case k => rfl
    case h =>
      dsimp only [startFr, List.map, List.cons_append, List.nil_append]
      walk_at "DS"
      walk_at "EXS"
    case r => rfl
  case qr => rfl
  case qh => rfl
end
end
local macro_rules | `(tactic| walk_at "CL") => wTab "U do_call_ok HY HY"
section
section
variable {S : St0}
theorem do_execute_ok {b : Bool} {d : Nat} {H1 H2 : Hp} {m : Mc} {a : Int} {l : List (Int × AV)} (hc : H1[m.ke]? = some (.idict l)) (hm : ((2 : Int), AV.int a) ∈ l) : Cl S.W b (d + 4) a_do_execute [.obj H1.length, .tup [.str "execute", .int 2]] (MH H1 m H2) (.bool true) (MH H1 ((m.w_b0 m.b).w_p a) H2) := by
  refine' Cl.eq ?cl ?qr ?qh
  case cl =>
    refine' Cl.ofBody (ps := [Str.ofString "m", Str.ofString "ins"]) (ls := []) ?f ?cd ?bi ?lo ?n ?nd ?ce ?co ?ge ?k ?h ?r
    case f => exact rfl
    case cd => kernel_rfl
    case bi =>
      intro us hu
      obtain ⟨u0, u1, rfl⟩ := usIs2 hu
      rfl
    case lo => kernel_rfl
    case n => rfl
    case nd => decide +kernel
    case ce => decide +kernel
    case co => rfl
    case ge => rfl
    case k => rfl
    case h =>
      dsimp only [startFr, List.map, List.cons_append, List.nil_append]
      walk_at "DS"
      walk_at "EXS"
    case r => rfl
  case qr => rfl
  case qh => rfl
end
end
local macro_rules | `(tactic| walk_at "CL") => wTab "U do_execute_ok HY HY"
section
section
variable {S : St0}
theorem do_allocate_ok {d : Nat} {H1 H2 : Hp} {m : Mc} {t : Int} (h0 : 0 ≤ t) (hi : t ≤ (m.stk.length : Int)) (hl : m.stk.length ≤ 80000) (ht : Cl S.W true (d + 4) a_Areas_top [.obj H1.length] (MH H1 m H2) (.int t) (MH H1 m H2)) : Cl S.W true (d + 6) a_do_allocate [.obj H1.length, .tup [.str "allocate", .int 2]] (MH H1 m H2) (.bool true) (MH H1 ((m.w_stk (sput (sput (sput (sput m.stk (t) (AV.int m.e)) (t + 1) (AV.int m.cp)) (t + 2 + 0) (voidV)) (t + 2 + 1) (voidV))).w_e t) H2) := by
  refine' Cl.eq ?cl ?qr ?qh
  case cl =>
    refine' Cl.ofBody (ps := [Str.ofString "m", Str.ofString "ins"]) (ls := []) ?f ?cd ?bi ?lo ?n ?nd ?ce ?co ?ge ?k ?h ?r
    case f => exact rfl
    case cd => kernel_rfl
    case bi =>
      intro us hu
      obtain ⟨u0, u1, rfl⟩ := usIs2 hu
      rfl
    case lo => kernel_rfl
    case n => rfl
    case nd => decide +kernel
    case ce => decide +kernel
    case co => rfl
    case ge => rfl
    case k => rfl
    case h =>
      dsimp only [startFr, List.map, List.cons_append, List.nil_append]
      walk_at "DS"
      walk_at "EXS"
    case r => rfl
  case qr => rfl
  case qh => rfl
end
end
local macro_rules | `(tactic| walk_at "CL") => wTab "U do_allocate_ok HY HY HY HY"
section
section
variable {S : St0}
theorem do_deallocate_ok {b : Bool} {d : Nat} {H1 H2 : Hp} {m : Mc} {ce cc : Int} (h0 : 0 ≤ m.e) (hn : m.e < 90000) (h1 : m.stk[(m.e + 1).toNat]? = some (.int cc)) (h2 : m.stk[m.e.toNat]? = some (.int ce)) : Cl S.W b (d + 4) a_do_deallocate [.obj H1.length, .tup [.str "deallocate"]] (MH H1 m H2) (.bool true) (MH H1 ((m.w_cp cc).w_e ce) H2) := by
  refine' Cl.eq ?cl ?qr ?qh
  case cl =>
    refine' Cl.ofBody (ps := [Str.ofString "m", Str.ofString "ins"]) (ls := []) ?f ?cd ?bi ?lo ?n ?nd ?ce ?co ?ge ?k ?h ?r
    case f => exact rfl
    case cd => kernel_rfl
    case bi =>
      intro us hu
      obtain ⟨u0, u1, rfl⟩ := usIs2 hu
      rfl
    case lo => kernel_rfl
    case n => rfl
    case nd => decide +kernel
    case ce => decide +kernel
    case co => rfl
    case ge => rfl
    case k => rfl
    case h =>
      dsimp only [startFr, List.map, List.cons_append, List.nil_append]
      walk_at "DS"
      walk_at "EXS"
    case r => rfl
  case qr => rfl
  case qh => rfl
end
end
local macro_rules | `(tactic| walk_at "CL") => wTab "U do_deallocate_ok HY HY HY HY"
section
section
variable {S : St0}
theorem do_get_level_ok {b : Bool} {d : Nat} {H1 H2 : Hp} {m : Mc} (h : ¬ m.e + 1 + 2 < m.bb) (h0 : 0 ≤ m.e + 1 + 2) (hi : m.e + 1 + 2 ≤ (m.stk.length : Int)) (hl : m.stk.length ≤ 90000) : Cl S.W b (d + 6) a_do_get_level [.obj H1.length, .tup [.str "get_level", .tup [.str "y", .int 2]]] (MH H1 m H2) (.bool true) (MH H1 (m.w_stk (sput m.stk (m.e + 1 + 2) (.tup [.int 5, .int m.b0]))) H2) := by
  refine' Cl.eq ?cl ?qr ?qh
  case cl =>
    refine' Cl.ofBody (ps := [Str.ofString "m", Str.ofString "ins"]) (ls := []) ?f ?cd ?bi ?lo ?n ?nd ?ce ?co ?ge ?k ?h ?r
    case f => exact rfl
    case cd => kernel_rfl
    case bi =>
      intro us hu
      obtain ⟨u0, u1, rfl⟩ := usIs2 hu
      rfl
    case lo => kernel_rfl
    case n => rfl
    case nd => decide +kernel
    case ce => decide +kernel
    case co => rfl
    case ge => rfl
    case k => rfl
    case h =>
      dsimp only [startFr, List.map, List.cons_append, List.nil_append]
      walk_at "DS"
      walk_at "EXS"
    case r => rfl
  case qr => rfl
  case qh => rfl
end
end
local macro_rules | `(tactic| walk_at "CL") => wTab "U do_get_level_ok HY HY HY HY"
section
section
variable {S : St0}
theorem get_variable_ok {b : Bool} {d : Nat} {H1 H2 : Hp} {m : Mc} {v : AV} (h : ¬ m.e + 1 + 1 < m.bb) (h0 : 0 ≤ m.e + 1 + 1) (hi : m.e + 1 + 1 ≤ (m.stk.length : Int)) (hl : m.stk.length ≤ 90000) (hx : m.xs[(1 : Int).toNat]? = some v) : Cl S.W b (d + 6) a_get_variable [.obj H1.length, .tup [.str "get_variable", .tup [.str "y", .int 1], .tup [.str "x", .int 1]]] (MH H1 m H2) (.bool true) (MH H1 (m.w_stk (sput m.stk (m.e + 1 + 1) v)) H2) := by
  refine' Cl.eq ?cl ?qr ?qh
  case cl =>
    refine' Cl.ofBody (ps := [Str.ofString "m", Str.ofString "ins"]) (ls := []) ?f ?cd ?bi ?lo ?n ?nd ?ce ?co ?ge ?k ?h ?r
    case f => exact rfl
    case cd => kernel_rfl
    case bi =>
      intro us hu
      obtain ⟨u0, u1, rfl⟩ := usIs2 hu
      rfl
    case lo => kernel_rfl
    case n => rfl
    case nd => decide +kernel
    case ce => decide +kernel
    case co => rfl
    case ge => rfl
    case k => rfl
    case h =>
      dsimp only [startFr, List.map, List.cons_append, List.nil_append]
      walk_at "DS"
      walk_at "EXS"
    case r => rfl
  case qr => rfl
  case qh => rfl
end
end
local macro_rules | `(tactic| walk_at "CL") => wTab "U get_variable_ok HY HY HY HY HY"
section
section
variable {S : St0}
theorem put_value_ok {b : Bool} {d : Nat} {H1 H2 : Hp} {m : Mc} {v : AV} (h0 : 0 ≤ m.e + 1 + 1) (hn : m.e + 1 + 1 < 90000) (hx : m.stk[(m.e + 1 + 1).toNat]? = some v) (h1 : (1 : Int) < (m.xs.length : Int)) (hl : m.xs.length ≤ 90000) : Cl S.W b (d + 6) a_put_value [.obj H1.length, .tup [.str "put_value", .tup [.str "y", .int 1], .tup [.str "x", .int 1]]] (MH H1 m H2) (.bool true) (MH H1 (m.w_xs (m.xs.set (1 : Int).toNat v)) H2) := by
  refine' Cl.eq ?cl ?qr ?qh
  case cl =>
    refine' Cl.ofBody (ps := [Str.ofString "m", Str.ofString "ins"]) (ls := []) ?f ?cd ?bi ?lo ?n ?nd ?ce ?co ?ge ?k ?h ?r
    case f => exact rfl
    case cd => kernel_rfl
    case bi =>
      intro us hu
      obtain ⟨u0, u1, rfl⟩ := usIs2 hu
      rfl
    case lo => kernel_rfl
    case n => rfl
    case nd => decide +kernel
    case ce => decide +kernel
    case co => rfl
    case ge => rfl
    case k => rfl
    case h =>
      dsimp only [startFr, List.map, List.cons_append, List.nil_append]
      walk_at "DS"
      walk_at "EXS"
    case r => rfl
  case qr => rfl
  case qh => rfl
end
end
local macro_rules | `(tactic| walk_at "CL") => wTab "U put_value_ok HY HY HY HY HY"
section
section
variable {S : St0}
theorem get_constant_c {b : Bool} {d : Nat} {H1 H2 : Hp} {m : Mc} {t v w : Int} (ht : ¬ t = 0) (ht1 : ¬ t = 1) (hx : m.xs[(1 : Int).toNat]? = some (.tup [.int t, .int v])) : Cl S.W b (d + 6) a_get_constant [.obj H1.length, .tup [.str "get_constant", .tup [.int 5, .int w], .tup [.str "x", .int 1]]] (MH H1 m H2) (.bool (t == 5 && v == w)) (MH H1 m H2) := by
  refine' Cl.eq ?cl ?qr ?qh
  case cl =>
    refine' Cl.ofBody (ps := [Str.ofString "m", Str.ofString "ins"]) (ls := []) ?f ?cd ?bi ?lo ?n ?nd ?ce ?co ?ge ?k ?h ?r
    case f => exact rfl
    case cd => kernel_rfl
    case bi =>
      intro us hu
      obtain ⟨u0, u1, rfl⟩ := usIs2 hu
      rfl
    case lo => kernel_rfl
    case n => rfl
    case nd => decide +kernel
    case ce => decide +kernel
    case co => rfl
    case ge => rfl
    case k => rfl
    case h =>
      dsimp only [startFr, List.map, List.cons_append, List.nil_append]
      walk_at "DS"
      walk_at "EXS"
    case r => rfl
  case qr => rfl
  case qh => rfl
end
end
local macro_rules | `(tactic| walk_at "CL") => wTab "U get_constant_c HY HY HY"
section
section
variable {S : St0}
theorem get_constant_b {b : Bool} {d : Nat} {H1 H2 : Hp} {m : Mc} {a t v w : Int} (hx0 : m.xs[(1 : Int).toNat]? = some (.tup [.int 0, .int a])) (h0 : 0 ≤ a) (h1 : a < 90000) (ht : ¬ t = 0) (ht1 : ¬ t = 1) (hx : m.hp[a.toNat]? = some (.tup [.int t, .int v])) : Cl S.W b (d + 6) a_get_constant [.obj H1.length, .tup [.str "get_constant", .tup [.int 5, .int w], .tup [.str "x", .int 1]]] (MH H1 m H2) (.bool (t == 5 && v == w)) (MH H1 m H2) := by
  refine' Cl.eq ?cl ?qr ?qh
  case cl =>
    refine' Cl.ofBody (ps := [Str.ofString "m", Str.ofString "ins"]) (ls := []) ?f ?cd ?bi ?lo ?n ?nd ?ce ?co ?ge ?k ?h ?r
    case f => exact rfl
    case cd => kernel_rfl
    case bi =>
      intro us hu
      obtain ⟨u0, u1, rfl⟩ := usIs2 hu
      rfl
    case lo => kernel_rfl
    case n => rfl
    case nd => decide +kernel
    case ce => decide +kernel
    case co => rfl
    case ge => rfl
    case k => rfl
    case h =>
      dsimp only [startFr, List.map, List.cons_append, List.nil_append]
      walk_at "DS"
      walk_at "EXS"
    case r => rfl
  case qr => rfl
  case qh => rfl
end
end
local macro_rules | `(tactic| walk_at "CL") => wTab "U get_constant_b HY HY HY HY HY HY"
section
section
variable {S : St0}
theorem get_constant_u0 {b : Bool} {d : Nat} {H1 H2 : Hp} {m : Mc} {a w : Int} (hx0 : m.xs[(1 : Int).toNat]? = some (.tup [.int 0, .int a])) (h0 : 0 ≤ a) (h1 : a < 90000) (hl : a < (m.hp.length : Int)) (hx : m.hp[a.toNat]? = some (.tup [.int 0, .int a])) (h : ¬ a < m.hb) : Cl S.W b (d + 6) a_get_constant [.obj H1.length, .tup [.str "get_constant", .tup [.int 5, .int w], .tup [.str "x", .int 1]]] (MH H1 m H2) (.bool true) (MH H1 (m.w_hp (m.hp.set a.toNat (.tup [.int 5, .int w]))) H2) := by
  refine' Cl.eq ?cl ?qr ?qh
  case cl =>
    refine' Cl.ofBody (ps := [Str.ofString "m", Str.ofString "ins"]) (ls := []) ?f ?cd ?bi ?lo ?n ?nd ?ce ?co ?ge ?k ?h ?r
    case f => exact rfl
    case cd => kernel_rfl
    case bi =>
      intro us hu
      obtain ⟨u0, u1, rfl⟩ := usIs2 hu
      rfl
    case lo => kernel_rfl
    case n => rfl
    case nd => decide +kernel
    case ce => decide +kernel
    case co => rfl
    case ge => rfl
    case k => rfl
    case h =>
      dsimp only [startFr, List.map, List.cons_append, List.nil_append]
      walk_at "DS"
      walk_at "EXS"
    case r => rfl
  case qr => rfl
  case qh => rfl
end
end
local macro_rules | `(tactic| walk_at "CL") => wTab "U get_constant_u0 HY HY HY HY HY HY"
section
section
variable {S : St0}
theorem get_constant_u1 {b : Bool} {d : Nat} {H1 H2 : Hp} {m : Mc} {a w : Int} (hx0 : m.xs[(1 : Int).toNat]? = some (.tup [.int 0, .int a])) (h0 : 0 ≤ a) (h1 : a < 90000) (hl : a < (m.hp.length : Int)) (hx : m.hp[a.toNat]? = some (.tup [.int 0, .int a])) (h : a < m.hb) (hlt : m.trl.length ≤ 90000) : Cl S.W b (d + 6) a_get_constant [.obj H1.length, .tup [.str "get_constant", .tup [.int 5, .int w], .tup [.str "x", .int 1]]] (MH H1 m H2) (.bool true) (MH H1 ((m.w_hp (m.hp.set a.toNat (.tup [.int 5, .int w]))).w_trl (m.trl ++ [.int a])) H2) := by
  refine' Cl.eq ?cl ?qr ?qh
  case cl =>
    refine' Cl.ofBody (ps := [Str.ofString "m", Str.ofString "ins"]) (ls := []) ?f ?cd ?bi ?lo ?n ?nd ?ce ?co ?ge ?k ?h ?r
    case f => exact rfl
    case cd => kernel_rfl
    case bi =>
      intro us hu
      obtain ⟨u0, u1, rfl⟩ := usIs2 hu
      rfl
    case lo => kernel_rfl
    case n => rfl
    case nd => decide +kernel
    case ce => decide +kernel
    case co => rfl
    case ge => rfl
    case k => rfl
    case h =>
      dsimp only [startFr, List.map, List.cons_append, List.nil_append]
      walk_at "DS"
      walk_at "EXS"
    case r => rfl
  case qr => rfl
  case qh => rfl
end
end
local macro_rules | `(tactic| walk_at "CL") => wTab "U get_constant_u1 HY HY HY HY HY HY HY"
section
section
variable {S : St0}
theorem do_cut_no {b : Bool} {d : Nat} {H1 H2 : Hp} {m : Mc} {q : Int} (h0 : 0 ≤ m.e + 1 + 2) (hn : m.e + 1 + 2 < 90000) (hx : m.stk[(m.e + 1 + 2).toNat]? = some (.tup [.int 5, .int q])) (h : ¬ q < m.b) : Cl S.W b (d + 7) a_do_cut_to [.obj H1.length, .tup [.str "cut_to", .tup [.str "y", .int 2]]] (MH H1 m H2) (.bool true) (MH H1 m H2) := by
  refine' Cl.eq ?cl ?qr ?qh
  case cl =>
    refine' Cl.ofBody (ps := [Str.ofString "m", Str.ofString "ins"]) (ls := []) ?f ?cd ?bi ?lo ?n ?nd ?ce ?co ?ge ?k ?h ?r
    case f => exact rfl
    case cd => kernel_rfl
    case bi =>
      intro us hu
      obtain ⟨u0, u1, rfl⟩ := usIs2 hu
      rfl
    case lo => kernel_rfl
    case n => rfl
    case nd => decide +kernel
    case ce => decide +kernel
    case co => rfl
    case ge => rfl
    case k => rfl
    case h =>
      dsimp only [startFr, List.map, List.cons_append, List.nil_append]
      walk_at "DS"
      walk_at "EXS"
    case r => rfl
  case qr => rfl
  case qh => rfl
end
end
local macro_rules | `(tactic| walk_at "CL") => wTab "U do_cut_no HY HY HY HY"
section
section
variable {S : St0}
theorem do_cut_neg {b : Bool} {d : Nat} {H1 H2 : Hp} {m : Mc} {q : Int} (h0 : 0 ≤ m.e + 1 + 2) (hn : m.e + 1 + 2 < 90000) (hx : m.stk[(m.e + 1 + 2).toNat]? = some (.tup [.int 5, .int q])) (h : q < m.b) (h3 : q < 0) : Cl S.W b (d + 7) a_do_cut_to [.obj H1.length, .tup [.str "cut_to", .tup [.str "y", .int 2]]] (MH H1 m H2) (.bool true) (MH H1 (((m.w_b q).w_hb 0).w_bb 0) H2) := by
  refine' Cl.eq ?cl ?qr ?qh
  case cl =>
    refine' Cl.ofBody (ps := [Str.ofString "m", Str.ofString "ins"]) (ls := []) ?f ?cd ?bi ?lo ?n ?nd ?ce ?co ?ge ?k ?h ?r
    case f => exact rfl
    case cd => kernel_rfl
    case bi =>
      intro us hu
      obtain ⟨u0, u1, rfl⟩ := usIs2 hu
      rfl
    case lo => kernel_rfl
    case n => rfl
    case nd => decide +kernel
    case ce => decide +kernel
    case co => rfl
    case ge => rfl
    case k => rfl
    case h =>
      dsimp only [startFr, List.map, List.cons_append, List.nil_append]
      walk_at "DS"
      walk_at "EXS"
    case r => rfl
  case qr => rfl
  case qh => rfl
end
end
local macro_rules | `(tactic| walk_at "CL") => wTab "U do_cut_neg HY HY HY HY HY"
section
section
variable {S : St0}
theorem do_cut_pos {b : Bool} {d : Nat} {H1 H2 : Hp} {m : Mc} {q k2 z : Int} (h0 : 0 ≤ m.e + 1 + 2) (hn : m.e + 1 + 2 < 90000) (hx : m.stk[(m.e + 1 + 2).toNat]? = some (.tup [.int 5, .int q])) (h : q < m.b) (h3 : ¬ q < 0) (h4 : q < 90000) (hk2 : m.stk[q.toNat]? = some (.int k2)) (h5 : 0 ≤ q + k2 + 6) (h6 : q + k2 + 6 < 90000) (hv2 : m.stk[(q + k2 + 6).toNat]? = some (.int z)) : Cl S.W b (d + 7) a_do_cut_to [.obj H1.length, .tup [.str "cut_to", .tup [.str "y", .int 2]]] (MH H1 m H2) (.bool true) (MH H1 (((m.w_b q).w_hb z).w_bb q) H2) := by
  refine' Cl.eq ?cl ?qr ?qh
  case cl =>
    refine' Cl.ofBody (ps := [Str.ofString "m", Str.ofString "ins"]) (ls := []) ?f ?cd ?bi ?lo ?n ?nd ?ce ?co ?ge ?k ?h ?r
    case f => exact rfl
    case cd => kernel_rfl
    case bi =>
      intro us hu
      obtain ⟨u0, u1, rfl⟩ := usIs2 hu
      rfl
    case lo => kernel_rfl
    case n => rfl
    case nd => decide +kernel
    case ce => decide +kernel
    case co => rfl
    case ge => rfl
    case k => rfl
    case h =>
      dsimp only [startFr, List.map, List.cons_append, List.nil_append]
      walk_at "DS"
      walk_at "EXS"
    case r => rfl
  case qr => rfl
  case qh => rfl
end
end
local macro_rules | `(tactic| walk_at "CL") => wTab "U do_cut_pos HY HY HY HY HY HY HY HY HY HY"
section
theorem sliceV_1 {a c : AV} {l : List AV} : sliceV (a :: c :: l) (some 1) (some (1 + 1)) Option.none = [c] := by
  unfold sliceV
  have hb : sliceBounds (some 1) (some (1 + 1)) Option.none (a :: c :: l).length = (1, 2, 1) := by
    unfold sliceBounds
    simp only [List.length_cons]
    simp
    omega
  rw [hb]
  rfl
noncomputable abbrev tabV : List (Str × AV) := [(Str.ofString "get_variable", .val (Value.ref 600)), (Str.ofString "get_value", .val (Value.ref 607)), (Str.ofString "get_constant", .val (Value.ref 614)), (Str.ofString "get_list", .val (Value.ref 621)), (Str.ofString "get_structure", .val (Value.ref 628)), (Str.ofString "unify_variable", .val (Value.ref 635)), (Str.ofString "unify_value", .val (Value.ref 642)), (Str.ofString "unify_local_value", .val (Value.ref 649)), (Str.ofString "unify_constant", .val (Value.ref 656)), (Str.ofString "unify_void", .val (Value.ref 663)), (Str.ofString "put_variable", .val (Value.ref 677)), (Str.ofString "put_void", .val (Value.ref 684)), (Str.ofString "put_value", .val (Value.ref 691)), (Str.ofString "put_unsafe_value", .val (Value.ref 698)), (Str.ofString "put_constant", .val (Value.ref 705)), (Str.ofString "put_list", .val (Value.ref 712)), (Str.ofString "put_structure", .val (Value.ref 719)), (Str.ofString "set_variable", .val (Value.ref 726)), (Str.ofString "set_value", .val (Value.ref 733)), (Str.ofString "set_local_value", .val (Value.ref 740)), (Str.ofString "set_constant", .val (Value.ref 747)), (Str.ofString "set_void", .val (Value.ref 754)), (Str.ofString "call", .val (Value.ref 768)), (Str.ofString "execute", .val (Value.ref 775)), (Str.ofString "proceed", .val (Value.ref 782)), (Str.ofString "allocate", .val (Value.ref 789)), (Str.ofString "deallocate", .val (Value.ref 796)), (Str.ofString "neck_cut", .val (Value.ref 803)), (Str.ofString "get_level", .val (Value.ref 810)), (Str.ofString "mark", .val (Value.ref 817)), (Str.ofString "cut_to", .val (Value.ref 824)), (Str.ofString "fail", .val (Value.ref 831)), (Str.ofString "halt", .val (Value.ref 838)), (Str.ofString "try", .val (Value.ref 845)), (Str.ofString "retry", .val (Value.ref 852)), (Str.ofString "trust", .val (Value.ref 859)), (Str.ofString "switch_on_term", .val (Value.ref 866)), (Str.ofString "switch_on_constant", .val (Value.ref 873)), (Str.ofString "switch_on_structure", .val (Value.ref 880))]
section
variable {S : St0}
theorem Ev.slice2 {W : Wd} {b : Bool} {d : Nat} {sc : Scope} {fr : Fr2} {H H₁ H₂ H₃ : Hp} {o lo hi : PySem.Expr} {sp p : Pos} {i j : Int} {k : Nat} {l r : List AV} (h1 : Ev W b d sc o fr H (.obj k) H₁) (h2 : Ev W b d sc lo fr H₁ (.int i) H₂) (h3 : Ev W b d sc hi fr H₂ (.int j) H₃) (hk : H₃[k]? = some (.list l)) (hl : l.length ≤ 100000) (q : sliceV l (some i) (some j) Option.none = r) :
    Ev W b d sc (.Subscript o (.Slice (some lo) (some hi) Option.none sp) p) fr H (.fl r) H₃ := q ▸ Ev.slice (lo := some lo) (hi := some hi) h1 h2 h3 hk hl
end
end
local macro_rules | `(tactic| walk_at "EV") => wTab "R Ev.slice2 EV EV EV HK NN a"
local macro_rules | `(tactic| walk_at "EV") => wTab "R Ev.sitem EV EV HK a 3"
local macro_rules | `(tactic| walk_at "EV") => wTab "R Ev.callSub EV EVS a 1 2 CL"
section
section
variable {S : St0}
theorem do_try_ok {d : Nat} {H1 H2 : Hp} {m : Mc} {t a : Int} {c : AV} (hS : sliceV m.xs (some 1) (some (1 + 1)) Option.none = [c]) (hxl : m.xs.length ≤ 90000) (h0 : 0 ≤ t) (hi : t ≤ (m.stk.length : Int)) (hl : m.stk.length ≤ 80000) (hl2 : m.trl.length ≤ 90000) (hl3 : m.hp.length ≤ 90000) (ht : Cl S.W true (d + 4) a_Areas_top [.obj H1.length] (MH H1 m H2) (.int t) (MH H1 m H2)) : Cl S.W true (d + 6) a_do_try [.obj H1.length, .tup [.str "try", .int a, .int 1]] (MH H1 m H2) (.bool true) (MH H1 (((((m.w_stk (sput (sput (sput (sput (sput (sput (sput (sput (sput m.stk (t) (AV.int 1)) (t + 1) (c)) (t + 1 + 1) (AV.int m.e)) (t + 1 + 2) (AV.int m.cp)) (t + 1 + 3) (AV.int m.b)) (t + 1 + 4) (AV.int m.p)) (t + 1 + 5) (AV.int m.trl.length)) (t + 1 + 6) (AV.int m.hp.length)) (t + 1 + 7) (AV.int m.b0))).w_b t).w_hb m.hp.length).w_bb t).w_p a) H2) := by
  refine' Cl.eq ?cl ?qr ?qh
  case cl =>
    refine' Cl.ofBody (ps := [Str.ofString "m", Str.ofString "ins"]) (ls := []) ?f ?cd ?bi ?lo ?n ?nd ?ce ?co ?ge ?k ?h ?r
    case f => exact rfl
    case cd => kernel_rfl
    case bi =>
      intro us hu
      obtain ⟨u0, u1, rfl⟩ := usIs2 hu
      rfl
    case lo => kernel_rfl
    case n => rfl
    case nd => decide +kernel
    case ce => decide +kernel
    case co => rfl
    case ge => rfl
    case k => rfl
    case h =>
      dsimp only [startFr, List.map, List.cons_append, List.nil_append]
      walk_at "DS"
      walk_at "EXS"
    case r => rfl
  case qr => rfl
  case qh => rfl
end
end
local macro_rules | `(tactic| walk_at "CL") => wTab "U do_try_ok HY HY HY HY HY HY HY HY"
section
section
variable {S : St0}
theorem do_retry_ok {d : Nat} {H1 H2 : Hp} {m : Mc} {m2 : Mc} {k a : Int} (hr : Cl S.W true (d + 5) a_Areas_restore_choice [.obj H1.length] (MH H1 m H2) .none (MH H1 m2 H2)) (h0 : 0 ≤ m2.b) (hb : m2.b < 90000) (hk : m2.stk[m2.b.toNat]? = some (.int k)) (h1 : 0 ≤ m2.b + k + 4) (h2 : m2.b + k + 4 < 90000) (h3 : (m2.b + k + 4).toNat < m2.stk.length) : Cl S.W true (d + 6) a_do_retry [.obj H1.length, .tup [.str "retry", .int a]] (MH H1 m H2) (.bool true) (MH H1 ((m2.w_stk (m2.stk.set (m2.b + k + 4).toNat (.int m2.p))).w_p a) H2) := by
  refine' Cl.eq ?cl ?qr ?qh
  case cl =>
    refine' Cl.ofBody (ps := [Str.ofString "m", Str.ofString "ins"]) (ls := []) ?f ?cd ?bi ?lo ?n ?nd ?ce ?co ?ge ?k ?h ?r
    case f => exact rfl
    case cd => kernel_rfl
    case bi =>
      intro us hu
      obtain ⟨u0, u1, rfl⟩ := usIs2 hu
      rfl
    case lo => kernel_rfl
    case n => rfl
    case nd => decide +kernel
    case ce => decide +kernel
    case co => rfl
    case ge => rfl
    case k => rfl
    case h =>
      dsimp only [startFr, List.map, List.cons_append, List.nil_append]
      walk_at "DS"
      walk_at "EXS"
    case r => rfl
  case qr => rfl
  case qh => rfl
end
end
local macro_rules | `(tactic| walk_at "CL") => wTab "U do_retry_ok HY HY HY HY HY HY HY"
section
section
variable {S : St0}
theorem do_trust_ok {d : Nat} {H1 H2 : Hp} {m : Mc} {m2 m3 : Mc} {a : Int} (hr : Cl S.W true (d + 5) a_Areas_restore_choice [.obj H1.length] (MH H1 m H2) .none (MH H1 m2 H2)) (hq : Cl S.W true (d + 5) a_Areas_pop_choice [.obj H1.length] (MH H1 m2 H2) .none (MH H1 m3 H2)) : Cl S.W true (d + 6) a_do_trust [.obj H1.length, .tup [.str "trust", .int a]] (MH H1 m H2) (.bool true) (MH H1 (m3.w_p a) H2) := by
  refine' Cl.eq ?cl ?qr ?qh
  case cl =>
    refine' Cl.ofBody (ps := [Str.ofString "m", Str.ofString "ins"]) (ls := []) ?f ?cd ?bi ?lo ?n ?nd ?ce ?co ?ge ?k ?h ?r
    case f => exact rfl
    case cd => kernel_rfl
    case bi =>
      intro us hu
      obtain ⟨u0, u1, rfl⟩ := usIs2 hu
      rfl
    case lo => kernel_rfl
    case n => rfl
    case nd => decide +kernel
    case ce => decide +kernel
    case co => rfl
    case ge => rfl
    case k => rfl
    case h =>
      dsimp only [startFr, List.map, List.cons_append, List.nil_append]
      walk_at "DS"
      walk_at "EXS"
    case r => rfl
  case qr => rfl
  case qh => rfl
end
end
local macro_rules | `(tactic| walk_at "CL") => wTab "U do_trust_ok HY HY"
section
section
variable {S : St0}
theorem step_true {d : Nat} {H1 H2 : Hp} {m : Mc} {m2 : Mc} {code as : List AV} {nm : Str} {fa : Addr} (h : m.steps < m.max) (hc : H1[m.kc]? = some (.list code)) (h0 : 0 ≤ m.p) (hp : m.p < 90000) (hi : code[m.p.toNat]? = some (.tup (.str nm :: as))) (hm : (nm, AV.val (.ref fa)) ∈ tabV) (htb : H1[m.kt]? = some (.sdict tabV)) (hkp : keepIn S.W.K (.ref fa) = true) (hst : (AV.str nm :: as)[(0 : Int).toNat]? = some (.str nm)) (hq : Cl S.W true (d + 8) fa [.obj H1.length, .tup (.str nm :: as)] (MH H1 ((m.w_steps (m.steps + 1)).w_p (m.p + 1)) H2) (.bool true) (MH H1 m2 H2)) : Cl S.W true (d + 9) a_Emulator_step [.obj H1.length] (MH H1 m H2) (.none) (MH H1 m2 H2) := by
  dsimp only [Mc.w_p, Mc.w_cp, Mc.w_e, Mc.w_b, Mc.w_b0, Mc.w_steps, Mc.w_max, Mc.w_halted, Mc.w_failed, Mc.w_hb, Mc.w_bb, Mc.w_xs, Mc.w_hp, Mc.w_stk, Mc.w_trl] at hq
  refine' Cl.eq ?cl ?qr ?qh
  case cl =>
    refine' Cl.ofBody (ps := [Str.ofString "self"]) (ls := [Str.ofString "instruction"]) ?f ?cd ?bi ?lo ?n ?nd ?ce ?co ?ge ?k ?h ?r
    case f => exact rfl
    case cd => kernel_rfl
    case bi =>
      intro us hu
      obtain ⟨u0, rfl⟩ := usIs1 hu
      rfl
    case lo => kernel_rfl
    case n => rfl
    case nd => decide +kernel
    case ce => decide +kernel
    case co => rfl
    case ge => rfl
    case k => rfl
    case h =>
      dsimp only [startFr, List.map, List.cons_append, List.nil_append]
      walk_at "DS"
      walk_at "EXS"
    case r => rfl
  case qr => rfl
  case qh => rfl
end
end
local macro_rules | `(tactic| walk_at "CL") => wTab "U step_true HY HY HY HY HY HY HY HY HY HY"
section
section
variable {S : St0}
theorem step_false {d : Nat} {H1 H2 : Hp} {m : Mc} {m2 m3 : Mc} {code as : List AV} {nm : Str} {fa : Addr} (h : m.steps < m.max) (hc : H1[m.kc]? = some (.list code)) (h0 : 0 ≤ m.p) (hp : m.p < 90000) (hi : code[m.p.toNat]? = some (.tup (.str nm :: as))) (hm : (nm, AV.val (.ref fa)) ∈ tabV) (htb : H1[m.kt]? = some (.sdict tabV)) (hkp : keepIn S.W.K (.ref fa) = true) (hst : (AV.str nm :: as)[(0 : Int).toNat]? = some (.str nm)) (hq : Cl S.W true (d + 8) fa [.obj H1.length, .tup (.str nm :: as)] (MH H1 ((m.w_steps (m.steps + 1)).w_p (m.p + 1)) H2) (.bool false) (MH H1 m2 H2)) (hbk : Cl S.W true (d + 8) a_Emulator_backtrack [.obj H1.length] (MH H1 m2 H2) .none (MH H1 m3 H2)) : Cl S.W true (d + 9) a_Emulator_step [.obj H1.length] (MH H1 m H2) (.none) (MH H1 m3 H2) := by
  dsimp only [Mc.w_p, Mc.w_cp, Mc.w_e, Mc.w_b, Mc.w_b0, Mc.w_steps, Mc.w_max, Mc.w_halted, Mc.w_failed, Mc.w_hb, Mc.w_bb, Mc.w_xs, Mc.w_hp, Mc.w_stk, Mc.w_trl] at hq
  refine' Cl.eq ?cl ?qr ?qh
  case cl =>
    refine' Cl.ofBody (ps := [Str.ofString "self"]) (ls := [Str.ofString "instruction"]) ?f ?cd ?bi ?lo ?n ?nd ?ce ?co ?ge ?k ?h ?r
    case f => exact rfl
    case cd => kernel_rfl
    case bi =>
      intro us hu
      obtain ⟨u0, rfl⟩ := usIs1 hu
      rfl
    case lo => kernel_rfl
    case n => rfl
    case nd => decide +kernel
    case ce => decide +kernel
    case co => rfl
    case ge => rfl
    case k => rfl
    case h =>
      dsimp only [startFr, List.map, List.cons_append, List.nil_append]
      walk_at "DS"
      walk_at "EXS"
    case r => rfl
  case qr => rfl
  case qh => rfl
end
end
local macro_rules | `(tactic| walk_at "CL") => wTab "U step_false HY HY HY HY HY HY HY HY HY HY HY"
section
section
variable {S : St0}
theorem step_raise {d : Nat} {H1 H2 : Hp} {m : Mc} (h : m.max ≤ m.steps) : ClX S.W (d + 3) a_Emulator_step [.obj H1.length] (MH H1 m H2) m.steps (MH H1 m H2) := by
  refine' ClX.ofBody (ps := [Str.ofString "self"]) (ls := [Str.ofString "instruction"]) ?f ?cd ?bi ?lo ?n ?nd ?ce ?co ?ge ?k ?h
  case f => exact rfl
  case cd => kernel_rfl
  case bi =>
    intro us hu
    obtain ⟨u0, rfl⟩ := usIs1 hu
    rfl
  case lo => kernel_rfl
  case n => rfl
  case nd => decide +kernel
  case ce => decide +kernel
  case co => rfl
  case ge => rfl
  case k => rfl
  case h =>
    dsimp only [startFr, List.map, List.cons_append, List.nil_append]
    refine' ExsX.head (ExX.ifT ?zt (ExsX.head (ExX.raise (ev_StepLimit ?zx) ?za ?zs)))
    case zt => walk_at "TB"
    case zx => kernel_rfl
    case za => walk_at "EVS"
    case zs => exact fun _ => rfl
inductive Stps (S : St0) (d : Nat) (H1 H2 : Hp) : Nat → Mc → Mc → Prop
  | done {m : Mc} : Stps S d H1 H2 0 m m
  | step {k : Nat} {m m1 m2 : Mc} : m.halted = false → Cl S.W true d a_Emulator_step [.obj H1.length] (MH H1 m H2) .none (MH H1 m1 H2) → Stps S d H1 H2 k m1 m2 → Stps S d H1 H2 (k + 1) m m2
theorem run_ok {d k : Nat} {H1 H2 : Hp} {m m2 : Mc} (hs : Stps S (d + 1) H1 H2 k m m2) (hh : m2.halted = true) : Cl S.W true (d + 2) a_Emulator_run [.obj H1.length] (MH H1 m H2) (.bool (!m2.failed)) (MH H1 m2 H2) := by
  refine' Cl.ofBody (ps := [Str.ofString "self"]) (ls := []) ?f ?cd ?bi ?lo ?n ?nd ?ce ?co ?ge ?k ?h ?r
  case f => exact rfl
  case cd => kernel_rfl
  case bi =>
    intro us hu
    obtain ⟨u0, rfl⟩ := usIs1 hu
    rfl
  case lo => kernel_rfl
  case n => rfl
  case nd => decide +kernel
  case ce => decide +kernel
  case co => rfl
  case ge => rfl
  case k => rfl
  case h =>
    dsimp only [startFr, List.map, List.cons_append, List.nil_append]
    refine' Exs.next (fr₁ := ([Str.ofString "self"], [some (AV.obj H1.length)])) (H₁ := MH H1 m2 H2) (Ex.while (n := k) ?zw) ?zr
    case zw =>
      induction hs with
      | done =>
        refine' WT.done (H₁ := MH H1 _ H2) ?zt
        walk_at "TB"
      | step h1 h2 _ ih =>
        refine' WT.turn (H₁ := MH H1 _ H2) ?yt ?yb (ih hh)
        case yt => walk_at "TB"
        case yb => walk_at "EXS"
    case zr => walk_at "EXS"
  case r => rfl
theorem run_raise {d k : Nat} {H1 H2 : Hp} {m m2 : Mc} (hs : Stps S (d + 3) H1 H2 k m m2) (hh : m2.halted = false) (hm : m2.max ≤ m2.steps) : ClX S.W (d + 4) a_Emulator_run [.obj H1.length] (MH H1 m H2) m2.steps (MH H1 m2 H2) := by
  refine' ClX.ofBody (ps := [Str.ofString "self"]) (ls := []) ?f ?cd ?bi ?lo ?n ?nd ?ce ?co ?ge ?k ?h
  case f => exact rfl
  case cd => kernel_rfl
  case bi =>
    intro us hu
    obtain ⟨u0, rfl⟩ := usIs1 hu
    rfl
  case lo => kernel_rfl
  case n => rfl
  case nd => decide +kernel
  case ce => decide +kernel
  case co => rfl
  case ge => rfl
  case k => rfl
  case h =>
    dsimp only [startFr, List.map, List.cons_append, List.nil_append]
    refine' ExsX.head (ExX.while (k := k) ?zw)
    induction hs with
    | done =>
      refine' WX.here (H₁ := MH H1 _ H2) ?zt (ExsX.head (ExX.expr (EvX.callMeth0 ?zo ?zk ?zn ?zm ?zc (step_raise hm)) ?zi ?zs))
      case zt => walk_at "TB"
      case zo => walk_at "EV"
      case zk => walk_at "HK"
      case zn => walk_at "NM"
      case zm => walk_at "MT"
      case zc => exact fun _ => ⟨_, rfl⟩
      case zi => exact fun _ q => by unfold interactive; rw [q]; rfl
      case zs => exact fun _ _ => rfl
    | step h1 h2 _ ih =>
      refine' WX.turn (H₁ := MH H1 _ H2) ?yt ?yb (ih hh hm)
      case yt => walk_at "TB"
      case yb => walk_at "EXS"
theorem redo_ok {d : Nat} {H1 H2 : Hp} {m m1 m2 : Mc} {r : AV} (h : m.failed = false) (hb : Cl S.W true (d + 1) a_Emulator_backtrack [.obj H1.length] (MH H1 (m.w_halted false) H2) .none (MH H1 m1 H2)) (hr : Cl S.W true (d + 1) a_Emulator_run [.obj H1.length] (MH H1 m1 H2) r (MH H1 m2 H2)) :
    Cl S.W true (d + 2) a_Emulator_redo [.obj H1.length] (MH H1 m H2) r (MH H1 m2 H2) := by
  refine' Cl.ofBody (ps := [Str.ofString "self"]) (ls := []) ?f ?cd ?bi ?lo ?n ?nd ?ce ?co ?ge ?k ?h ?r
  case f => exact rfl
  case cd => kernel_rfl
  case bi =>
    intro us hu
    obtain ⟨u0, rfl⟩ := usIs1 hu
    rfl
  case lo => kernel_rfl
  case n => rfl
  case nd => decide +kernel
  case ce => decide +kernel
  case co => rfl
  case ge => rfl
  case k => rfl
  case h =>
    dsimp only [startFr, List.map, List.cons_append, List.nil_append]
    walk_at "EXS"
  case r => rfl
theorem redo_raise {d : Nat} {H1 H2 : Hp} {m m1 m2 : Mc} {n : Int} (h : m.failed = false) (hb : Cl S.W true (d + 1) a_Emulator_backtrack [.obj H1.length] (MH H1 (m.w_halted false) H2) .none (MH H1 m1 H2)) (hr : ClX S.W (d + 1) a_Emulator_run [.obj H1.length] (MH H1 m1 H2) n (MH H1 m2 H2)) :
    ClX S.W (d + 2) a_Emulator_redo [.obj H1.length] (MH H1 m H2) n (MH H1 m2 H2) := by
  refine' ClX.ofBody (ps := [Str.ofString "self"]) (ls := []) ?f ?cd ?bi ?lo ?n ?nd ?ce ?co ?ge ?k ?h
  case f => exact rfl
  case cd => kernel_rfl
  case bi =>
    intro us hu
    obtain ⟨u0, rfl⟩ := usIs1 hu
    rfl
  case lo => kernel_rfl
  case n => rfl
  case nd => decide +kernel
  case ce => decide +kernel
  case co => rfl
  case ge => rfl
  case k => rfl
  case h =>
    dsimp only [startFr, List.map, List.cons_append, List.nil_append]
    refine' ExsX.next (H₁ := MH H1 m H2) ?za (ExsX.next (H₁ := MH H1 (m.w_halted false) H2) ?zb (ExsX.next (H₁ := MH H1 m1 H2) ?zc (ExsX.head (ExX.ret (EvX.callMeth0 ?zo ?zk ?zn ?zm ?ze hr)))))
    case za => walk_at "ST"
    case zb => walk_at "ST"
    case zc => walk_at "ST"
    case zo => walk_at "EV"
    case zk => walk_at "HK"
    case zn => walk_at "NM"
    case zm => walk_at "MT"
    case ze => exact fun _ => ⟨_, rfl⟩
end
end
section
section
variable {S : St0}
theorem potSet_self {H : Hp} {kp kn : Nat} {i : Int} {l : List Int} (h : PotAt H kp kn i l) : potSet H kp kn i l = H := by
  unfold potSet
  rw [set_self h.p, set_self h.n]
theorem potSet_set {H : Hp} {kp kn : Nat} {i j : Int} {l l' : List Int} (h : kp ≠ kn) : potSet (potSet H kp kn i l) kp kn j l' = potSet H kp kn j l' := by
  unfold potSet
  rw [List.set_comm _ _ (Ne.symm h), List.set_set, List.set_set]
theorem potSet_len {H : Hp} {kp kn : Nat} {i : Int} {l : List Int} : (potSet H kp kn i l).length = H.length := by
  unfold potSet; rw [List.length_set, List.length_set]
inductive Goes (S : St0) (Ok : Hp → Prop) : Nat → Bool → Mc → Bool → Mc → Prop
  | fin {n : Nat} {more : Bool} {m : Mc} {r : Bool} {m2 : Mc} : (∀ H1 H2, Ok H1 → Cl S.W true 696 (if more then a_Emulator_redo else a_Emulator_run) [.obj H1.length] (MH H1 m H2) (.bool r) (MH H1 (m2.w_max m.max) H2)) → m2.steps ≤ m.max → Goes S Ok n more m r m2
  | stop {n : Nat} {more : Bool} {m m1 : Mc} {r : Bool} {m2 : Mc} : (∀ H1 H2, Ok H1 → ClX S.W 696 (if more then a_Emulator_redo else a_Emulator_run) [.obj H1.length] (MH H1 m H2) m1.steps (MH H1 m1 H2)) → m1.steps = m1.max → m1.halted = false →
      (∀ dg, 0 ≤ dg → dg < 9 → Goes S Ok n false (m1.w_max (m1.max + (1 + dg))) r m2) → Goes S Ok (n + 1) more m r m2
noncomputable abbrev stNs : List Str := [Str.ofString "pot", Str.ofString "m", Str.ofString "more", Str.ofString "_", Str.ofString "found", Str.ofString "stop"]
theorem goes_fs {Ok : Hp → Prop} {kp kn : Nat} {sc : Scope} {body : List PySem.Stmt} {H2 : Hp} (hOk : ∀ H1 i l j l', PotAt H1 kp kn i l → Ok H1 → Ok (potSet H1 kp kn j l'))
    (hfin : ∀ {H1 : Hp} {more : Bool} {m : Mc} {r : Bool} {m2 : Mc} {v : AV} {o1 : Option AV}, (∀ H1 H2, Ok H1 → Cl S.W true 696 (if more then a_Emulator_redo else a_Emulator_run) [.obj H1.length] (MH H1 m H2) (.bool r) (MH H1 (m2.w_max m.max) H2)) → Ok H1 →
      ∃ fr', ExsS S.W 696 sc body (stNs, [some (.obj kp), some (.obj H1.length), some (.bool more), some v, o1, none]) (MH H1 m H2) (.ret (.bool r)) fr' (MH H1 (m2.w_max m.max) H2))
    (hstop : ∀ {H1 : Hp} {more : Bool} {m m1 : Mc} {v : AV} {o1 : Option AV} {i : Int} {l : List Int}, (∀ H1 H2, Ok H1 → ClX S.W 696 (if more then a_Emulator_redo else a_Emulator_run) [.obj H1.length] (MH H1 m H2) m1.steps (MH H1 m1 H2)) → m1.steps = m1.max → m1.halted = false → PotAt H1 kp kn i l → Ok H1 →
      ExsS S.W 696 sc body (stNs, [some (.obj kp), some (.obj H1.length), some (.bool more), some v, o1, none]) (MH H1 m H2) .next (stNs, [some (.obj kp), some (.obj H1.length), some (.bool false), some v, o1, none]) (MH (potSet H1 kp kn (i + 1) (digL i l 9)) (m1.w_max (m1.max + (1 + digV i l 9))) H2))
    {n : Nat} {more : Bool} {m : Mc} {r : Bool} {m2 : Mc} (g : Goes S Ok n more m r m2) : ∀ (H1 : Hp) (i : Int) (l : List Int) (rest : List AV) (o0 o1 : Option AV), n < rest.length → PotAt H1 kp kn i l → Ok H1 →
      ∃ i' l' mx fr', l'.length = l.length ∧ m2.steps ≤ mx ∧ FS S.W 696 sc (Str.ofString "_") body rest (stNs, [some (.obj kp), some (.obj H1.length), some (.bool more), o0, o1, none]) (MH H1 m H2) (.ret (.bool r)) fr' (MH (potSet H1 kp kn i' l') (m2.w_max mx) H2) := by
  induction g with
  | fin hc hle =>
    rename_i n more m r m2
    intro H1 i l rest o0 o1 hl hp ho
    cases rest with
    | nil => simp at hl
    | cons v rest =>
      obtain ⟨fr', h⟩ := hfin (v := v) (o1 := o1) hc ho
      refine ⟨i, l, m.max, fr', rfl, hle, ?_⟩
      rw [potSet_self hp]
      exact FS.ret (.s (.s (.s .z))) h
  | stop hc h1 h2 _ ih =>
    rename_i n more m m1 r m2
    intro H1 i l rest o0 o1 hl hp ho
    cases rest with
    | nil => simp at hl
    | cons v rest =>
      have db := digV_bounds (i := i) (l := l) (lim := 9) (by decide)
      have hl9 : (digL i l 9).length = l.length := digL_len
      obtain ⟨i', l', mx, fr', e, el, f⟩ := ih (digV i l 9) db.1 db.2 (potSet H1 kp kn (i + 1) (digL i l 9)) (i + 1) (digL i l 9) rest (some v) o1 (by simpa using hl) (hp.set (i + 1) hl9) (hOk _ _ _ _ _ hp ho)
      refine ⟨i', l', mx, fr', e.trans hl9, el, ?_⟩
      rw [potSet_set hp.ne, potSet_len] at f
      exact FS.turn (.s (.s (.s .z))) (hstop hc h1 h2 hp ho) f
theorem g_range' (P : Params) : nsIn (K0 P) mainGlobals (Str.ofString "range") = some none := by kernel_rfl
theorem g_digit (P : Params) : nsIn (K0 P) mainGlobals (Str.ofString "_law_digit") = some (some (Value.ref a__law_digit)) := by kernel_rfl
theorem Loc.idx {ns : List Str} {fr : List (Option AV)} {y : Str} {v : AV} (l : Loc ns fr y v) : ∃ k : Nat, ns[k]? = some y ∧ fr[k]? = some (some v) := by
  induction l with
  | z => exact ⟨0, rfl, rfl⟩
  | s _ ih => obtain ⟨k, a, b⟩ := ih; exact ⟨k + 1, a, b⟩
theorem no_loc {ns : List Str} {fr : List (Option AV)} {y : Str} {v : AV} {k : Nat} (nd : ns.Nodup) (h : ns[k]? = some y) (hf : fr[k]? = some none) : ¬ Loc ns fr y v := fun l => by
  obtain ⟨j, a, b⟩ := l.idx
  have hk := (List.getElem?_eq_some_iff.mp h).1
  have : k = j := (List.getElem?_inj hk nd).mp (h.trans a.symm)
  rw [← this, hf] at b
  cases b
noncomputable def stBody : List PySem.Stmt := match f__law_stopped with
  | .FunctionDef _ _ (.For _ _ b _ _ :: _) _ _ _ _ _ _ _ => b
  | _ => []
noncomputable def stScope : Scope := match f__law_stopped with
  | .FunctionDef _ _ _ _ _ _ scope _ _ _ => scope
  | _ => default
theorem st_fin {Ok : Hp → Prop} {kp : Nat} {H1 H2 : Hp} {more : Bool} {m : Mc} {r : Bool} {m2 : Mc} {v : AV} {o1 : Option AV} (hc : ∀ H1 H2, Ok H1 → Cl S.W true 696 (if more then a_Emulator_redo else a_Emulator_run) [.obj H1.length] (MH H1 m H2) (.bool r) (MH H1 (m2.w_max m.max) H2)) (ho : Ok H1) :
    ∃ fr', ExsS S.W 696 stScope stBody (stNs, [some (.obj kp), some (.obj H1.length), some (.bool more), some v, o1, none]) (MH H1 m H2) (.ret (.bool r)) fr' (MH H1 (m2.w_max m.max) H2) := by
  refine ⟨(stNs, [some (.obj kp), some (.obj H1.length), some (.bool more), some v, some (.bool r), none]), ?_⟩
  have hc := hc H1 H2 ho
  refine ExsS.ret (ExS.tryRet (Exs.next (H₁ := MH H1 (m2.w_max m.max) H2) (Ex.assign (v := .bool r) ?zv (.s (.s (.s (.s .z)))) (by kernel_rfl) (fun _ _ => rfl)) (Exs.ret (Ex.ret (Ev.ofLocal (v := .bool r) (.s (.s (.s (.s .z)))) (by kernel_rfl) (by kernel_rfl))))))
  cases more with
  | true =>
    refine Ev.ifT (H₁ := MH H1 m H2) (Ts.val (Ev.ofLocal (v := .bool true) (.s (.s .z)) (by kernel_rfl) (by kernel_rfl)) (fun _ _ => rfl)) ?_
    exact Ev.callMeth0 (Ev.ofLocal (v := .obj H1.length) (.s .z) (by kernel_rfl) (by kernel_rfl)) MH0 (nm_emu (by kernel_rfl)) (mt_Emulator_redo S.w.params) (fun _ => ⟨_, rfl⟩) hc
  | false =>
    refine Ev.ifF (H₁ := MH H1 m H2) (Ts.val (Ev.ofLocal (v := .bool false) (.s (.s .z)) (by kernel_rfl) (by kernel_rfl)) (fun _ _ => rfl)) ?_
    exact Ev.callMeth0 (Ev.ofLocal (v := .obj H1.length) (.s .z) (by kernel_rfl) (by kernel_rfl)) MH0 (nm_emu (by kernel_rfl)) (mt_Emulator_run S.w.params) (fun _ => ⟨_, rfl⟩) hc
theorem Ex.eqH {W : Wd} {b : Bool} {d : Nat} {sc : Scope} {st : PySem.Stmt} {fr fr' : Fr2} {H H₁ H₂ : Hp} {fl : Fl} (h : Ex W b d sc st fr H fl fr' H₁) (q : H₁ = H₂) : Ex W b d sc st fr H fl fr' H₂ := q ▸ h
theorem st_stop {Ok : Hp → Prop} {kp kn : Nat} {H1 H2 : Hp} {more : Bool} {m m1 : Mc} {v : AV} {o1 : Option AV} {i : Int} {l : List Int} (hc : ∀ H1 H2, Ok H1 → ClX S.W 696 (if more then a_Emulator_redo else a_Emulator_run) [.obj H1.length] (MH H1 m H2) m1.steps (MH H1 m1 H2)) (h1 : m1.steps = m1.max) (h2 : m1.halted = false) (hp : PotAt H1 kp kn i l) (ho : Ok H1) :
    ExsS S.W 696 stScope stBody (stNs, [some (.obj kp), some (.obj H1.length), some (.bool more), some v, o1, none]) (MH H1 m H2) .next (stNs, [some (.obj kp), some (.obj H1.length), some (.bool false), some v, o1, none]) (MH (potSet H1 kp kn (i + 1) (digL i l 9)) (m1.w_max (m1.max + (1 + digV i l 9))) H2) := by
  have hc := hc H1 H2 ho
  refine ExsS.next (H₁ := MH H1 m1 H2) (fr₁ := (stNs, [some (.obj kp), some (.obj H1.length), some (.bool more), some v, o1, none])) (ExS.tryCatchAs (P := S.w.params) (n := m1.steps) rfl (g_StepLimit S.w.params) (by kernel_rfl) (by kernel_rfl) (ExM.assign ?zv (fun _ _ => rfl)) (by kernel_rfl) ?zl ?zs)
    (ExsS.next (H₁ := MH H1 m1 H2) (ExS.of (Ex.assign (v := .bool false) Ev.bool (.s (.s .z)) (by kernel_rfl) (fun _ _ => rfl))) (ExsS.next (ExS.tryCatch (P := S.w.params) (n := m1.steps) (H₁ := MH H1 m1 H2) rfl (g_StepLimit S.w.params) (by kernel_rfl) (by kernel_rfl) (ExM.expr ?zr ?zi (fun _ _ => rfl)) ?zu) ExsS.nil))
  case zv =>
    cases more with
    | true =>
      refine EvX.ifT (H₁ := MH H1 m H2) (Ts.val (Ev.ofLocal (v := .bool true) (.s (.s .z)) (by kernel_rfl) (by kernel_rfl)) (fun _ _ => rfl)) ?_
      exact EvX.callMeth0 (Ev.ofLocal (v := .obj H1.length) (.s .z) (by kernel_rfl) (by kernel_rfl)) MH0 (nm_emu (by kernel_rfl)) (mt_Emulator_redo S.w.params) (fun _ => ⟨_, rfl⟩) hc
    | false =>
      refine EvX.ifF (H₁ := MH H1 m H2) (Ts.val (Ev.ofLocal (v := .bool false) (.s (.s .z)) (by kernel_rfl) (by kernel_rfl)) (fun _ _ => rfl)) ?_
      exact EvX.callMeth0 (Ev.ofLocal (v := .obj H1.length) (.s .z) (by kernel_rfl) (by kernel_rfl)) MH0 (nm_emu (by kernel_rfl)) (mt_Emulator_run S.w.params) (fun _ => ⟨_, rfl⟩) hc
  case zr => exact EvX.callMeth0 (Ev.ofLocal (v := .obj H1.length) (.s .z) (by kernel_rfl) (by kernel_rfl)) MH0 (nm_emu (by kernel_rfl)) (mt_Emulator_run S.w.params) (fun _ => ⟨_, rfl⟩) (run_raise (d := 692) (k := 0) .done h2 (by omega))
  case zi => exact fun _ q => by unfold interactive; rw [q]; rfl
  case zl =>
    intro z v l
    refine ⟨fun q => ?_, l⟩
    subst q
    exact no_loc (k := 5) (by decide +kernel) rfl rfl l
  case zs =>
    intro c O s m x e D t hd es nn tk A F hy he hoe hD hoD hg Q E k
    obtain ⟨hh, gg, dr, tk0, os⟩ := s
    have A : At S.W c m (MH H1 m1 H2) hh x := A
    have X : (K0 S.w.params).In hh := O.X.keeps A.F.keep
    have lm : Loc stNs [some (.obj kp), some (.obj H1.length), some (.bool more), some v, o1, none] (Str.ofString "m") (.obj H1.length) := .s .z
    have ne0 : (m1.steps != m1.max) = false := by rw [h1]; simp
    refine wpAny_execs_cons (wpAny_If (wpAny_isTrue_BoolOp (wpAny_allTrue_Or_cons (wpAny_isTrue_Compare1 (Attribute_any_ (nameX_L A.F hy ?_ O.hk (by kernel_rfl) (by kernel_rfl)) (by rw [arm_eval_Attribute]; rfl)) rfl))))
    refine sl_get X (A.N.get he) (A.N.get hD) hg rfl ?_
    refine (Ev.attr (p := _) (Ev.ofLocal lm (by kernel_rfl) (by kernel_rfl)) MH0 (n := Str.ofString "max_steps") (v := .int m1.max) (by repeat (first | exact List.mem_cons_self | refine List.mem_cons_of_mem _ ?_)) (emu_nd _ _) (by kernel_rfl) rfl (fun _ _ => rfl)) c O ⟨hh, gg, dr, tk0 + 1, os⟩ m x A F _ _ fun u h' t' x' A' e' r' => ?_
    first | obtain rfl := VR.v r' | obtain ⟨_, rfl⟩ := VR.i r' | obtain rfl := VR.t r' | obtain rfl := VR.n r' | obtain ⟨_, rfl⟩ := VR.s r' | cases r'
    refine ne_int ?_
    rw [ne0]
    refine wpAny_truthy_bool ?_
    rw [if_neg (by decide)]
    refine wpAny_allTrue_Or_cons ?_
    refine (Ts.cmp (Ev.attr (p := _) (Ev.ofLocal lm (by kernel_rfl) (by kernel_rfl)) MH0 (n := Str.ofString "steps") (v := .int m1.steps) (by repeat (first | exact List.mem_cons_self | refine List.mem_cons_of_mem _ ?_)) (emu_nd _ _) (by kernel_rfl) rfl (fun _ _ => rfl)) (Ev.attr (p := _) (Ev.ofLocal lm (by kernel_rfl) (by kernel_rfl)) MH0 (n := Str.ofString "max_steps") (v := .int m1.max) (by repeat (first | exact List.mem_cons_self | refine List.mem_cons_of_mem _ ?_)) (emu_nd _ _) (by kernel_rfl) rfl (fun _ _ => rfl)) CmpR.neI rfl) c O ⟨h', gg, dr, t', os⟩ m x' A' (F.mono e') _ _ fun h2' t2 x2 A2 e2 => ?_
    rw [decide_eq_true h1]
    rw [if_neg (by decide)]
    refine wpAny_allTrue_Or_nil ?_
    rw [if_neg (by decide)]
    exact wpAny_execs_nil (wpAny_execs_nil (k _ _ _ A2 (e'.trans e2)))
  case zu =>
    refine Exs.next (fr₁ := (stNs, [some (.obj kp), some (.obj H1.length), some (.bool false), some v, o1, none])) (H₁ := MH (potSet H1 kp kn (i + 1) (digL i l 9)) (m1.w_max (m1.max + (1 + digV i l 9))) H2) ?za Exs.nil
    case za =>
      have hd := (digit_ok (S := S) (b := false) (d := 694) (H := MH H1 m1 H2) (hp.app _) (lim := 9) (by decide) (by decide))
      rw [potSet_app hp] at hd
      refine Ex.eqH (Ex.augAttr (Ev.ofLocal (v := .obj H1.length) (.s .z) (by kernel_rfl) (by kernel_rfl)) (MH0 (H1 := H1) (H2 := H2) (m := m1)) (n := Str.ofString "max_steps") (i := m1.max) (by repeat (first | exact List.mem_cons_self | refine List.mem_cons_of_mem _ ?_)) (emu_nd _ _) (by kernel_rfl)
        (Ev.add Ev.int (Ev.callFn (Ev.ofGlobal (W := S.W) (g_digit S.w.params) (fun _ => .val _) (by kernel_rfl) (by kernel_rfl)) (Evs.cons (Ev.ofLocal (v := .obj kp) .z (by kernel_rfl) (by kernel_rfl)) (Evs.cons Ev.int Evs.nil (fun _ => rfl)) (fun _ => rfl)) (by kernel_rfl) (fun _ => rfl) (fun _ _ => rfl) hd))
        (by rw [List.getElem?_append_right (by rw [potSet_len]; exact Nat.le_refl _), potSet_len, Nat.sub_self]; rfl) (put_max_steps (v := m1.max + (1 + digV i l 9))) (emu_nd _ _) (Nat.le_of_ble_eq_true rfl) (by kernel_rfl)) ?_
      have q := set_app (potSet H1 kp kn (i + 1) (digL i l 9)) (.inst c_Emulator (emuFs H1.length m1) :: .inst c_Store (stoFs H1.length m1) :: .list m1.xs :: .list m1.hp :: .list m1.stk :: .list m1.trl :: H2) 0 (.inst c_Emulator (emuFs H1.length (m1.w_max (m1.max + (1 + digV i l 9)))))
      rw [potSet_len] at q
      rw [show MH (potSet H1 kp kn (i + 1) (digL i l 9)) (m1.w_max (m1.max + (1 + digV i l 9))) H2 = _ from by unfold MH; rw [potSet_len]]
      exact q
theorem stopped_ok {Ok : Hp → Prop} {kp kn n : Nat} {i : Int} {l : List Int} {H1 H2 : Hp} {more : Bool} {m : Mc} {r : Bool} {m2 : Mc} (hOk : ∀ H1 i l j l', PotAt H1 kp kn i l → Ok H1 → Ok (potSet H1 kp kn j l'))
    (g : Goes S Ok n more m r m2) (hn : n < 500) (hp : PotAt H1 kp kn i l) (ho : Ok H1) :
    ∃ i' l' mx, l'.length = l.length ∧ m2.steps ≤ mx ∧ Cl S.W true 697 a__law_stopped [.obj kp, .obj H1.length, .bool more] (MH H1 m H2) (.bool r) (MH (potSet H1 kp kn i' l') (m2.w_max mx) H2) := by
  obtain ⟨i', l', mx, fr', e, el, f⟩ := goes_fs (H2 := H2) (sc := stScope) (body := stBody) (kp := kp) (kn := kn) hOk (fun hc ho => st_fin hc ho) (fun hc h1 h2 hp ho => st_stop hc h1 h2 hp ho) g H1 i l (rangeV 0 500) none none (by simpa [rangeV] using hn) hp ho
  refine ⟨i', l', mx, e, el, ?_⟩
  refine Cl.ofBodyS (W := S.W) (ps := [Str.ofString "pot", Str.ofString "m", Str.ofString "more"]) (ls := [Str.ofString "_", Str.ofString "found", Str.ofString "stop"]) (fl := .ret (.bool r)) (fr' := fr') (by exact rfl) (by kernel_rfl) ?bi (by kernel_rfl) rfl (by decide +kernel) (by decide +kernel) rfl rfl rfl ?h rfl
  case bi =>
    intro us hu
    obtain ⟨u0, u1, u2, rfl⟩ := usIs3 hu
    rfl
  case h =>
    exact ExsS.ret (ExS.forRange1 (nn := 500) (Ev.ofBuiltin (W := S.W) (g_range' S.w.params) (by boot_fast) (by decide +kernel) (by kernel_rfl) (by kernel_rfl)) Ev.int (by decide) f (by kernel_rfl) (fun _ => rfl) (fun _ _ => rfl))
end
end
section
inductive Ce where
  | r (a : Int)
  | v (i : Nat)
  | o
  | l (q : Int)
inductive Sl where
  | z (k : Int)
  | c (x : Ce)
structure TM where
  p : Int
  cp : Int
  e : Int
  b : Int
  b0 : Int
  hb : Int
  bb : Int
  steps : Int
  halted : Bool
  failed : Bool
  x : Ce
  hp : List Ce
  stk : List Sl
  trl : List Int
inductive In where
  | fail | halt
  | tr (a : Int) | re (a : Int) | tu (a : Int)
  | gc (j : Nat)
  | pr | al | gv | gl | ca | cu | pv | de | ex
structure Pg where
  code : List In
  e1 : Int
  e2 : Int
noncomputable def getZ (l : List Sl) (i : Int) : Option Int := match l[i.toNat]? with
  | some (.z k) => some k
  | _ => none
noncomputable def getC (l : List Sl) (i : Int) : Option Ce := match l[i.toNat]? with
  | some (.c k) => some k
  | _ => none
noncomputable def sputT (l : List Sl) (i : Int) (v : Sl) : List Sl := if i.toNat < l.length then l.set i.toNat v else l ++ [v]
noncomputable def lastT : List Int → Option (List Int × Int)
  | [] => none
  | [a] => some ([], a)
  | a :: b :: l => (lastT (b :: l)).map fun q => (a :: q.1, q.2)
noncomputable def grd {α : Type} (c : Prop) [Decidable c] (a : Option α) : Option α := if c then a else none
theorem grd_elim {α : Type} {c P : Prop} [Decidable c] {a : Option α} {z : α} (h : grd c a = some z) (k : c → a = some z → P) : P := by
  unfold grd at h
  by_cases q : c
  · rw [if_pos q] at h; exact k q h
  · rw [if_neg q] at h; cases h
theorem bnd_elim {α β : Type} {P : Prop} {x : Option α} {f : α → Option β} {z : β} (h : x.bind f = some z) (k : ∀ y, x = some y → f y = some z → P) : P := by
  cases x with
  | none => cases h
  | some y => exact k y rfl h
noncomputable def topT (g : Pg) (t : TM) : Option Int :=
  if t.b < t.e then
    grd (0 ≤ t.cp - 1 ∧ t.cp - 1 < 1000) (match g.code[(t.cp - 1).toNat]? with
      | some .ca => some (t.e + 2 + 2)
      | _ => none)
  else if 0 ≤ t.b then grd (t.b < 1000) ((getZ t.stk t.b).bind fun k => some (t.b + k + 8)) else some 0
noncomputable def btT (t : TM) : Option TM :=
  if t.b < 0 then some { t with failed := true, halted := true }
  else grd (t.b < 1000 ∧ t.stk.length < 1000) ((getZ t.stk t.b).bind fun k => grd (0 ≤ k ∧ k < 1000) ((getZ t.stk (t.b + k + 7)).bind fun q => (getZ t.stk (t.b + k + 4)).bind fun z => some { t with b0 := q, p := z }))
noncomputable def resT (t : TM) : Option TM :=
  grd (0 ≤ t.b ∧ t.b < 1000) ((getZ t.stk t.b).bind fun k1 => grd (k1 = 1) ((getC t.stk (t.b + 1)).bind fun v => (getZ t.stk (t.b + 1 + 1)).bind fun ee => (getZ t.stk (t.b + 1 + 2)).bind fun cc => (getZ t.stk (t.b + 1 + 5)).bind fun n => (getZ t.stk (t.b + 1 + 6)).bind fun hn =>
    grd (hn = (t.hp.length : Int) ∧ t.hp.length < 1000 ∧ t.trl.length < 1000)
      (if n < (t.trl.length : Int) then (lastT t.trl).bind fun z => grd (n = (z.1.length : Int) ∧ 0 ≤ z.2 ∧ z.2 < (t.hp.length : Int)) (some { t with x := v, e := ee, cp := cc, trl := z.1, hp := t.hp.set z.2.toNat (.r z.2) })
       else some { t with x := v, e := ee, cp := cc })))
noncomputable def setB (t : TM) (q : Int) : Option TM :=
  if q < 0 then some { t with b := q, hb := 0, bb := 0 }
  else grd (q < 1000) ((getZ t.stk q).bind fun k => grd (0 ≤ q + k + 6 ∧ q + k + 6 < 1000) ((getZ t.stk (q + k + 6)).bind fun z => some { t with b := q, hb := z, bb := q }))
noncomputable def insT (eq rel : Nat → Nat → Bool) (g : Pg) (t : TM) : In → Option (Bool × TM)
  | .fail => none
  | .halt => some (true, { t with halted := true })
  | .pr => some (true, { t with p := t.cp })
  | .ca => some (true, { t with cp := t.p, b0 := t.b, p := g.e1 })
  | .ex => some (true, { t with b0 := t.b, p := g.e2 })
  | .al => (topT g t).bind fun q => grd (0 ≤ q ∧ q ≤ (t.stk.length : Int) ∧ t.stk.length < 1000) (some (true, { t with stk := sputT (sputT (sputT (sputT t.stk q (.z t.e)) (q + 1) (.z t.cp)) (q + 2 + 0) (.c .o)) (q + 2 + 1) (.c .o), e := q }))
  | .de => grd (0 ≤ t.e ∧ t.e < 1000) ((getZ t.stk (t.e + 1)).bind fun cc => (getZ t.stk t.e).bind fun ce => some (true, { t with cp := cc, e := ce }))
  | .gl => grd (¬ t.e + 1 + 2 < t.bb ∧ 0 ≤ t.e + 1 + 2 ∧ t.e + 1 + 2 ≤ (t.stk.length : Int) ∧ t.stk.length < 1000) (some (true, { t with stk := sputT t.stk (t.e + 1 + 2) (.c (.l t.b0)) }))
  | .gv => grd (¬ t.e + 1 + 1 < t.bb ∧ 0 ≤ t.e + 1 + 1 ∧ t.e + 1 + 1 ≤ (t.stk.length : Int) ∧ t.stk.length < 1000) (some (true, { t with stk := sputT t.stk (t.e + 1 + 1) (.c t.x) }))
  | .pv => grd (0 ≤ t.e + 1 + 1 ∧ t.e + 1 + 1 < 1000) ((getC t.stk (t.e + 1 + 1)).bind fun v => some (true, { t with x := v }))
  | .gc w => match t.x with
    | .v i => grd (rel i w = true) (some (eq i w, t))
    | .r a => grd (0 ≤ a ∧ a < 1000 ∧ a < (t.hp.length : Int) ∧ t.trl.length < 1000) ((t.hp[a.toNat]?).bind fun y => match y with
      | .v i => grd (rel i w = true) (some (eq i w, t))
      | .r a' => grd (a' = a) (if a < t.hb then some (true, { t with hp := t.hp.set a.toNat (.v w), trl := t.trl ++ [a] }) else some (true, { t with hp := t.hp.set a.toNat (.v w) }))
      | _ => none)
    | _ => none
  | .cu => grd (0 ≤ t.e + 1 + 2 ∧ t.e + 1 + 2 < 1000) ((getC t.stk (t.e + 1 + 2)).bind fun y => match y with
      | .l q => if q < t.b then (setB t q).bind fun t2 => some (true, t2) else some (true, t)
      | _ => none)
  | .tr a => (topT g t).bind fun q => grd (0 ≤ q ∧ q ≤ (t.stk.length : Int) ∧ t.stk.length < 1000 ∧ t.trl.length < 1000 ∧ t.hp.length < 1000)
        (some (true, { t with stk := sputT (sputT (sputT (sputT (sputT (sputT (sputT (sputT (sputT t.stk q (.z 1)) (q + 1) (.c t.x)) (q + 1 + 1) (.z t.e)) (q + 1 + 2) (.z t.cp)) (q + 1 + 3) (.z t.b)) (q + 1 + 4) (.z t.p)) (q + 1 + 5) (.z t.trl.length)) (q + 1 + 6) (.z t.hp.length)) (q + 1 + 7) (.z t.b0), b := q, hb := t.hp.length, bb := q, p := a }))
  | .re a => (resT t).bind fun t2 => grd (0 ≤ t2.b ∧ t2.b < 1000) ((getZ t2.stk t2.b).bind fun k => grd (0 ≤ t2.b + k + 4 ∧ t2.b + k + 4 < (t2.stk.length : Int) ∧ t2.stk.length < 1000) (some (true, { t2 with stk := t2.stk.set (t2.b + k + 4).toNat (.z t2.p), p := a })))
  | .tu a => (resT t).bind fun t2 => grd (0 ≤ t2.b ∧ t2.b < 1000) ((getZ t2.stk t2.b).bind fun k => grd (0 ≤ t2.b + k + 3 ∧ t2.b + k + 3 < 1000) ((getZ t2.stk (t2.b + k + 3)).bind fun q => (setB t2 q).bind fun t3 => some (true, { t3 with p := a })))
noncomputable def stepT (eq rel : Nat → Nat → Bool) (g : Pg) (t : TM) : Option TM :=
  grd (0 ≤ t.p ∧ t.p < 1000 ∧ t.steps < 4000) ((g.code[t.p.toNat]?).bind fun i => (insT eq rel g { t with steps := t.steps + 1, p := t.p + 1 } i).bind fun z => if z.1 then some z.2 else btT z.2)
noncomputable def runT (eq rel : Nat → Nat → Bool) (g : Pg) : Nat → TM → Option TM
  | 0, _ => none
  | n + 1, t => if t.halted then some t else match stepT eq rel g t with
    | some t' => if t'.steps = t.steps + 1 then runT eq rel g n t' else none
    | none => none
noncomputable def ansT (t : TM) (v : Bool) : Option Nat := if v then (match t.hp with
  | [.v i] => some i
  | _ => none) else some 5
noncomputable def allT (eq rel : Nat → Nat → Bool) (g : Pg) (v : Bool) : TM → List Nat → Bool
  | t, [] => match runT eq rel g 100 t with
    | some t' => t'.failed && decide (t'.b = -1)
    | none => false
  | t, d :: ds => match runT eq rel g 100 t with
    | some t' => !t'.failed && (match ansT t' v with
      | some i => i == d
      | none => false) && (match btT { t' with halted := false } with
      | some t'' => decide (t''.steps = t'.steps) && allT eq rel g v t'' ds
      | none => false)
    | none => false
noncomputable def factsT (start : Nat) (ids : List Nat) : List In :=
  (if ids.length > 1 then (List.range ids.length).map fun k => if k = 0 then .tr (start + ids.length + 2 * k : Nat) else if k < ids.length - 1 then .re (start + ids.length + 2 * k : Nat) else .tu (start + ids.length + 2 * k : Nat) else []) ++ ids.flatMap fun i => [.gc i, .pr]
noncomputable def ruleT (cuts : Bool) : List In := [.al, .gv, .gl, .ca] ++ (if cuts then [.cu] else []) ++ [.pv, .de, .ex]
noncomputable def firstI (f : Nat) : List Nat := List.range f
noncomputable def secondI (s : Nat) : List Nat := (List.range s).map (· + 2)
noncomputable def len1 (f : Nat) : Nat := (if f > 1 then f else 0) + 2 * f
noncomputable def pgT (f s : Nat) (cuts : Bool) : Pg :=
  { code := [.fail, .halt] ++ factsT 2 (firstI f) ++ factsT (2 + len1 f) (secondI s) ++ ruleT cuts, e1 := 2, e2 := (2 + len1 f : Nat) }
noncomputable def startT (f s : Nat) (v : Bool) : TM :=
  { p := (2 + len1 f + len1 s : Nat), cp := 1, e := -1, b := -1, b0 := -1, hb := 0, bb := 0, steps := 0, halted := false, failed := false, x := if v then .r 0 else .v 5, hp := if v then [.r 0] else [], stk := [], trl := [] }
noncomputable def dueT (eq : Nat → Nat → Bool) (f s : Nat) (cuts v : Bool) : List Nat :=
  let met := (firstI f).filter fun i => v || eq 5 i
  let met := if cuts then met.take 1 else met
  met.flatMap fun i => ((secondI s).filter fun j => eq (if v then i else 5) j).map fun _ => if v then i else 5
noncomputable def idxT (f s : Nat) (v : Bool) (i j : Nat) : Nat := if v then i * s + (j - 2) else if j < 2 then j else f + (j - 2)
noncomputable def relT (f s : Nat) (v : Bool) (i j : Nat) : Bool := if v then i < f && 2 ≤ j && j - 2 < s else i == 5 && (j < f || 2 ≤ j && j - 2 < s)
noncomputable def eqT (f s : Nat) (v : Bool) (l : List Bool) (i j : Nat) : Bool := l.getD (idxT f s v i j) false
noncomputable def bitsT : Nat → List (List Bool)
  | 0 => [[]]
  | n + 1 => (bitsT n).flatMap fun l => [false :: l, true :: l]
noncomputable def okT (f s : Nat) (cuts v : Bool) (l : List Bool) : Bool := allT (eqT f s v l) (relT f s v) (pgT f s cuts) v (startT f s v) (dueT (eqT f s v l) f s cuts v)
noncomputable def shT (f s : Nat) (cuts v : Bool) : Bool := (bitsT (if v then f * s else f + s)).all (okT f s cuts v)
end
section
theorem sh_1_1_f_f : shT 1 1 false false = true := by decide +kernel
theorem sh_1_1_f_t : shT 1 1 false true = true := by decide +kernel
theorem sh_1_1_t_f : shT 1 1 true false = true := by decide +kernel
theorem sh_1_1_t_t : shT 1 1 true true = true := by decide +kernel
theorem sh_1_2_f_f : shT 1 2 false false = true := by decide +kernel
theorem sh_1_2_f_t : shT 1 2 false true = true := by decide +kernel
theorem sh_1_2_t_f : shT 1 2 true false = true := by decide +kernel
theorem sh_1_2_t_t : shT 1 2 true true = true := by decide +kernel
theorem sh_1_3_f_f : shT 1 3 false false = true := by decide +kernel
theorem sh_1_3_f_t : shT 1 3 false true = true := by decide +kernel
theorem sh_1_3_t_f : shT 1 3 true false = true := by decide +kernel
theorem sh_1_3_t_t : shT 1 3 true true = true := by decide +kernel
theorem sh_2_1_f_f : shT 2 1 false false = true := by decide +kernel
theorem sh_2_1_f_t : shT 2 1 false true = true := by decide +kernel
theorem sh_2_1_t_f : shT 2 1 true false = true := by decide +kernel
theorem sh_2_1_t_t : shT 2 1 true true = true := by decide +kernel
theorem sh_2_2_f_f : shT 2 2 false false = true := by decide +kernel
theorem sh_2_2_f_t : shT 2 2 false true = true := by decide +kernel
theorem sh_2_2_t_f : shT 2 2 true false = true := by decide +kernel
theorem sh_2_2_t_t : shT 2 2 true true = true := by decide +kernel
theorem sh_2_3_f_f : shT 2 3 false false = true := by decide +kernel
theorem sh_2_3_f_t : shT 2 3 false true = true := by decide +kernel
theorem sh_2_3_t_f : shT 2 3 true false = true := by decide +kernel
theorem sh_2_3_t_t : shT 2 3 true true = true := by decide +kernel
end
section
noncomputable def Ce.av (ρ : Nat → Int) : Ce → AV
  | .r a => .tup [.int 0, .int a]
  | .v i => .tup [.int 5, .int (ρ i)]
  | .o => voidV
  | .l q => .tup [.int 5, .int q]
noncomputable def Sl.av (ρ : Nat → Int) : Sl → AV
  | .z k => .int k
  | .c x => x.av ρ
@[reducible] noncomputable def emb (ρ : Nat → Int) (kc ke kt : Nat) (mx : Int) (t : TM) : Mc :=
  { p := t.p, cp := t.cp, e := t.e, b := t.b, b0 := t.b0, steps := t.steps, max := mx, halted := t.halted, failed := t.failed, hb := t.hb, bb := t.bb, xs := [voidV, t.x.av ρ], hp := t.hp.map (Ce.av ρ), stk := t.stk.map (Sl.av ρ), trl := t.trl.map AV.int, kc := kc, ke := ke, kt := kt }
noncomputable def In.nm : In → Str
  | .fail => Str.ofString "fail"
  | .halt => Str.ofString "halt"
  | .tr _ => Str.ofString "try"
  | .re _ => Str.ofString "retry"
  | .tu _ => Str.ofString "trust"
  | .gc _ => Str.ofString "get_constant"
  | .pr => Str.ofString "proceed"
  | .al => Str.ofString "allocate"
  | .gv => Str.ofString "get_variable"
  | .gl => Str.ofString "get_level"
  | .ca => Str.ofString "call"
  | .cu => Str.ofString "cut_to"
  | .pv => Str.ofString "put_value"
  | .de => Str.ofString "deallocate"
  | .ex => Str.ofString "execute"
noncomputable def In.as (ρ : Nat → Int) : In → List AV
  | .tr a => [.int a, .int 1]
  | .re a => [.int a]
  | .tu a => [.int a]
  | .gc w => [.tup [.int 5, .int (ρ w)], .tup [.str "x", .int 1]]
  | .al => [.int 2]
  | .gv => [.tup [.str "y", .int 1], .tup [.str "x", .int 1]]
  | .gl => [.tup [.str "y", .int 2]]
  | .ca => [.int 1, .int 2]
  | .cu => [.tup [.str "y", .int 2]]
  | .pv => [.tup [.str "y", .int 1], .tup [.str "x", .int 1]]
  | .ex => [.int 2]
  | _ => []
noncomputable def In.fa : In → Addr
  | .fail => 831
  | .halt => a_do_halt
  | .tr _ => a_do_try
  | .re _ => a_do_retry
  | .tu _ => a_do_trust
  | .gc _ => a_get_constant
  | .pr => a_do_proceed
  | .al => a_do_allocate
  | .gv => a_get_variable
  | .gl => a_do_get_level
  | .ca => a_do_call
  | .cu => a_do_cut_to
  | .pv => a_put_value
  | .de => a_do_deallocate
  | .ex => a_do_execute
noncomputable def codeAV (ρ : Nat → Int) (l : List In) : List AV := l.map fun i => .tup (.str i.nm :: i.as ρ)
theorem In.tab (i : In) : (i.nm, AV.val (.ref i.fa)) ∈ tabV := by
  cases i <;> (show (_, _) ∈ tabV) <;> repeat (first | exact List.mem_cons_self | refine List.mem_cons_of_mem _ ?_)
theorem In.keep (P : Params) {eq rel : Nat → Nat → Bool} {g : Pg} {t : TM} {z : Bool × TM} (i : In) (h : insT eq rel g t i = some z) : keepIn (K0 P) (.ref i.fa) = true := by
  cases i with
  | fail => cases h
  | _ => kernel_rfl
theorem sput_map (ρ : Nat → Int) (l : List Sl) (i : Int) (v : Sl) : (sputT l i v).map (Sl.av ρ) = sput (l.map (Sl.av ρ)) i (v.av ρ) := by
  unfold sputT sput
  rw [List.length_map]
  split
  · rw [List.map_set]
  · rw [List.map_append]; rfl
theorem getZ_at {ρ : Nat → Int} {l : List Sl} {i k : Int} (h : getZ l i = some k) : (l.map (Sl.av ρ))[i.toNat]? = some (.int k) := by
  unfold getZ at h
  rw [List.getElem?_map]
  split at h
  · rename_i z q; cases h; rw [q]; rfl
  · cases h
theorem getC_at {ρ : Nat → Int} {l : List Sl} {i : Int} {k : Ce} (h : getC l i = some k) : (l.map (Sl.av ρ))[i.toNat]? = some (k.av ρ) := by
  unfold getC at h
  rw [List.getElem?_map]
  split at h
  · rename_i z q; cases h; rw [q]; rfl
  · cases h
theorem lastT_at {l : List Int} : ∀ {z : List Int × Int}, lastT l = some z → l = z.1 ++ [z.2] := by
  induction l with
  | nil => intro z h; cases h
  | cons a l ih =>
    intro z h
    cases l with
    | nil => rw [← Option.some.inj h]; rfl
    | cons b l =>
      unfold lastT at h
      cases q : lastT (b :: l) with
      | none => rw [q] at h; cases h
      | some y =>
        rw [q] at h
        rw [← Option.some.inj h, ih q]; rfl
structure PgAt (ρ : Nat → Int) (g : Pg) (kc ke kt : Nat) (H1 : Hp) : Prop where
  c : H1[kc]? = some (.list (codeAV ρ g.code))
  e : ∃ l, H1[ke]? = some (.idict l) ∧ ((1 : Int), AV.int g.e1) ∈ l ∧ ((2 : Int), AV.int g.e2) ∈ l
  t : H1[kt]? = some (.sdict tabV)
section
variable {S : St0} {d : Nat} {H1 H2 : Hp} {ρ : Nat → Int} {g : Pg} {kc ke kt : Nat} {mx : Int} {t t' : TM} {eq rel : Nat → Nat → Bool}
theorem Cl.pre {W : Wd} {b : Bool} {d : Nat} {f : Addr} {as : List AV} {r : AV} {H H₁ H₂ : Hp} (h : Cl W b d f as H r H₁) (q : H = H₂) : Cl W b d f as H₂ r H₁ := q ▸ h
theorem top_sound (P : PgAt ρ g kc ke kt H1) {q : Int} (h : topT g t = some q) : Cl S.W true (d + 3) a_Areas_top [.obj H1.length] (MH H1 (emb ρ kc ke kt mx t) H2) (.int q) (MH H1 (emb ρ kc ke kt mx t) H2) := by
  unfold topT at h
  by_cases c1 : t.b < t.e
  · rw [if_pos c1] at h
    refine grd_elim h fun c2 h => ?_
    split at h
    · rename_i q2
      cases h
      refine top_a (m := emb ρ kc ke kt mx t) (n := 2) (a0 := .str (Str.ofString "call")) (a1 := .int 1) (code := codeAV ρ g.code) c1 P.c c2.1 (by have := c2.2; show t.cp - 1 < 100000; omega) ?_
      show (codeAV ρ g.code)[(t.cp - 1).toNat]? = _
      unfold codeAV
      rw [List.getElem?_map, q2]; rfl
    · cases h
  · rw [if_neg c1] at h
    by_cases c2 : 0 ≤ t.b
    · rw [if_pos c2] at h
      refine grd_elim h fun c3 h => bnd_elim h fun k hz h => ?_
      obtain rfl := Option.some.inj h
      exact top_b (m := emb ρ kc ke kt mx t) (k := k) c1 c2 (by show t.b < 100000; omega) (getZ_at hz)
    · rw [if_neg c2] at h
      obtain rfl := Option.some.inj h
      exact top_c (m := emb ρ kc ke kt mx t) c1 c2
theorem bt_sound {b : Bool} (h : btT t = some t') : Cl S.W b (d + 5) a_Emulator_backtrack [.obj H1.length] (MH H1 (emb ρ kc ke kt mx t) H2) .none (MH H1 (emb ρ kc ke kt mx t') H2) := by
  unfold btT at h
  by_cases c1 : t.b < 0
  · rw [if_pos c1] at h
    obtain rfl := Option.some.inj h
    exact backtrack_no (m := emb ρ kc ke kt mx t) c1
  · rw [if_neg c1] at h
    refine grd_elim h fun c2 h => bnd_elim h fun k hk h => grd_elim h fun c3 h => bnd_elim h fun q hq h => bnd_elim h fun z hz h => ?_
    obtain rfl := Option.some.inj h
    exact backtrack_yes (m := emb ρ kc ke kt mx t) (k := k) (q := q) (z := z) (by show 0 ≤ t.b; omega) (by show t.b < 80000; omega) (getZ_at hk) c3.1 (by show t.b + k + 7 < 90000; omega) (getZ_at hq) (getZ_at hz)
theorem res_sound (h : resT t = some t') : Cl S.W true (d + 5) a_Areas_restore_choice [.obj H1.length] (MH H1 (emb ρ kc ke kt mx t) H2) .none (MH H1 (emb ρ kc ke kt mx t') H2) := by
  unfold resT at h
  refine grd_elim h fun c1 h => bnd_elim h fun k1 h1 h => grd_elim h fun e1 h => bnd_elim h fun v h2 h => bnd_elim h fun ee h3 h => bnd_elim h fun cc h4 h => bnd_elim h fun n h5 h => bnd_elim h fun hn h6 h => grd_elim h fun c2 h => ?_
  rw [e1] at h1
  have e1 : (t.hp.map (Ce.av ρ)).length = t.hp.length := List.length_map _
  have e2 : (t.trl.map AV.int).length = t.trl.length := List.length_map _
  by_cases c3 : n < (t.trl.length : Int)
  · rw [if_pos c3] at h
    refine bnd_elim h fun z hl h => grd_elim h fun c4 h => ?_
    obtain rfl := Option.some.inj h
    have hT := lastT_at hl
    have e3 : t.trl.length = z.1.length + 1 := by rw [hT, List.length_append]; rfl
    refine Cl.eq (restore_1 (m := emb ρ kc ke kt mx t) (v := v.av ρ) (ee := ee) (cc := cc) (n := n) (hn := hn) (k := z.2) (tl := z.1.map AV.int) c1.1 (by show t.b < 80000; omega) (getZ_at h1) (getC_at h2) (by show 1 < 2; omega) (by show 2 ≤ 90000; omega) (getZ_at h3) (getZ_at h4) (getZ_at h5) (getZ_at h6)
      (by show hn = ((t.hp.map (Ce.av ρ)).length : Int); rw [e1]; exact c2.1) (by show (t.hp.map (Ce.av ρ)).length ≤ 90000; omega) (by show t.trl.map AV.int = _; rw [hT, List.map_append]; rfl) (by rw [List.length_map]; exact c4.1) (by rw [List.length_map]; omega) c4.2.1 (by show z.2 < ((t.hp.map (Ce.av ρ)).length : Int); rw [e1]; exact c4.2.2) (by omega)) rfl ?_
    simp only [emb, List.map_set, Ce.av]
    rfl
  · rw [if_neg c3] at h
    obtain rfl := Option.some.inj h
    exact restore_0 (m := emb ρ kc ke kt mx t) (v := v.av ρ) (ee := ee) (cc := cc) (n := n) (hn := hn) c1.1 (by show t.b < 80000; omega) (getZ_at h1) (getC_at h2) (by show 1 < 2; omega) (by show 2 ≤ 90000; omega) (getZ_at h3) (getZ_at h4) (getZ_at h5) (getZ_at h6)
      (by show hn = ((t.hp.map (Ce.av ρ)).length : Int); rw [e1]; exact c2.1) (by show (t.hp.map (Ce.av ρ)).length ≤ 90000; omega) (by show ¬ n < ((t.trl.map AV.int).length : Int); rw [e2]; exact c3) (by show (t.trl.map AV.int).length ≤ 90000; omega)
end
end
section
section
variable {S : St0} {d : Nat} {H1 H2 : Hp} {ρ : Nat → Int} {g : Pg} {kc ke kt : Nat} {mx : Int} {t t' : TM} {eq rel : Nat → Nat → Bool}
theorem setB_sound {q : Int} (hb0 : 0 ≤ t.b) (hb1 : t.b < 1000) {k : Int} (hk : getZ t.stk t.b = some k) (h1 : 0 ≤ t.b + k + 3) (h2 : t.b + k + 3 < 1000) (hq : getZ t.stk (t.b + k + 3) = some q) (h : setB t q = some t') :
    Cl S.W true (d + 5) a_Areas_pop_choice [.obj H1.length] (MH H1 (emb ρ kc ke kt mx t) H2) .none (MH H1 (emb ρ kc ke kt mx t') H2) := by
  unfold setB at h
  by_cases c1 : q < 0
  · rw [if_pos c1] at h
    obtain rfl := Option.some.inj h
    exact pop_choice_neg (m := emb ρ kc ke kt mx t) (k := k) (q := q) hb0 (by show t.b < 90000; omega) (getZ_at hk) h1 (by show t.b + k + 3 < 90000; omega) (getZ_at hq) c1
  · rw [if_neg c1] at h
    refine grd_elim h fun c2 h => bnd_elim h fun k2 hk2 h => grd_elim h fun c3 h => bnd_elim h fun z hz h => ?_
    obtain rfl := Option.some.inj h
    exact pop_choice_pos (m := emb ρ kc ke kt mx t) (k := k) (q := q) (k2 := k2) (z := z) hb0 (by show t.b < 90000; omega) (getZ_at hk) h1 (by show t.b + k + 3 < 90000; omega) (getZ_at hq) c1 (by omega) (getZ_at hk2) c3.1 (by omega) (getZ_at hz)
theorem cut_sound {q : Int} (h0 : 0 ≤ t.e + 1 + 2) (hn : t.e + 1 + 2 < 1000) (hx : getC t.stk (t.e + 1 + 2) = some (.l q)) (hl : q < t.b) (h : setB t q = some t') :
    Cl S.W true (d + 7) a_do_cut_to [.obj H1.length, .tup [.str "cut_to", .tup [.str "y", .int 2]]] (MH H1 (emb ρ kc ke kt mx t) H2) (.bool true) (MH H1 (emb ρ kc ke kt mx t') H2) := by
  unfold setB at h
  by_cases c1 : q < 0
  · rw [if_pos c1] at h
    obtain rfl := Option.some.inj h
    exact do_cut_neg (m := emb ρ kc ke kt mx t) (q := q) h0 (by show t.e + 1 + 2 < 90000; omega) (getC_at hx) hl c1
  · rw [if_neg c1] at h
    refine grd_elim h fun c2 h => bnd_elim h fun k2 hk2 h => grd_elim h fun c3 h => bnd_elim h fun z hz h => ?_
    obtain rfl := Option.some.inj h
    exact do_cut_pos (m := emb ρ kc ke kt mx t) (q := q) (k2 := k2) (z := z) h0 (by show t.e + 1 + 2 < 90000; omega) (getC_at hx) hl c1 (by omega) (getZ_at hk2) c3.1 (by omega) (getZ_at hz)
noncomputable abbrev InsOk (S : St0) (d : Nat) (H1 H2 : Hp) (ρ : Nat → Int) (kc ke kt : Nat) (mx : Int) (t : TM) (i : In) (z : Bool × TM) : Prop :=
  Cl S.W true (d + 8) i.fa [.obj H1.length, .tup (.str i.nm :: i.as ρ)] (MH H1 (emb ρ kc ke kt mx t) H2) (.bool z.1) (MH H1 (emb ρ kc ke kt mx z.2) H2)
section
variable {z : Bool × TM} {a : Int}
theorem ins_al (P : PgAt ρ g kc ke kt H1) (h : insT eq rel g t .al = some z) : InsOk S d H1 H2 ρ kc ke kt mx t .al z := by
  refine bnd_elim h fun q hq h => grd_elim h fun c h => ?_
  obtain rfl := Option.some.inj h
  refine Cl.eq (do_allocate_ok (d := d + 2) (m := emb ρ kc ke kt mx t) (t := q) c.1 (by show q ≤ ((t.stk.map (Sl.av ρ)).length : Int); rw [List.length_map]; exact c.2.1) (by show (t.stk.map (Sl.av ρ)).length ≤ 80000; rw [List.length_map]; omega) (top_sound P hq)) rfl ?_
  simp only [emb, sput_map, Sl.av, Ce.av]
theorem ins_de (h : insT eq rel g t .de = some z) : InsOk S d H1 H2 ρ kc ke kt mx t .de z := by
  refine grd_elim h fun c h => bnd_elim h fun cc h1 h => bnd_elim h fun ce h2 h => ?_
  obtain rfl := Option.some.inj h
  exact do_deallocate_ok (d := d + 4) (m := emb ρ kc ke kt mx t) (ce := ce) (cc := cc) c.1 (by show t.e < 90000; omega) (getZ_at h1) (getZ_at h2)
theorem ins_gl (h : insT eq rel g t .gl = some z) : InsOk S d H1 H2 ρ kc ke kt mx t .gl z := by
  refine grd_elim h fun c h => ?_
  obtain rfl := Option.some.inj h
  refine Cl.eq (do_get_level_ok (d := d + 2) (m := emb ρ kc ke kt mx t) c.1 c.2.1 (by show t.e + 1 + 2 ≤ ((t.stk.map (Sl.av ρ)).length : Int); rw [List.length_map]; exact c.2.2.1) (by show (t.stk.map (Sl.av ρ)).length ≤ 90000; rw [List.length_map]; omega)) rfl ?_
  simp only [emb, sput_map, Sl.av, Ce.av]
theorem ins_gv (h : insT eq rel g t .gv = some z) : InsOk S d H1 H2 ρ kc ke kt mx t .gv z := by
  refine grd_elim h fun c h => ?_
  obtain rfl := Option.some.inj h
  refine Cl.eq (get_variable_ok (d := d + 2) (m := emb ρ kc ke kt mx t) (v := t.x.av ρ) c.1 c.2.1 (by show t.e + 1 + 1 ≤ ((t.stk.map (Sl.av ρ)).length : Int); rw [List.length_map]; exact c.2.2.1) (by show (t.stk.map (Sl.av ρ)).length ≤ 90000; rw [List.length_map]; omega) rfl) rfl ?_
  simp only [emb, sput_map, Sl.av]
theorem ins_pv (h : insT eq rel g t .pv = some z) : InsOk S d H1 H2 ρ kc ke kt mx t .pv z := by
  refine grd_elim h fun c h => bnd_elim h fun v hv h => ?_
  obtain rfl := Option.some.inj h
  exact put_value_ok (d := d + 2) (m := emb ρ kc ke kt mx t) (v := v.av ρ) c.1 (by show t.e + 1 + 1 < 90000; omega) (getC_at hv) (by show (1 : Int) < 2; decide) (by show 2 ≤ 90000; decide)
theorem ins_gc (hrel : ∀ i w, rel i w = true → eq i w = decide (ρ i = ρ w)) {w : Nat} (h : insT eq rel g t (.gc w) = some z) : InsOk S d H1 H2 ρ kc ke kt mx t (.gc w) z := by
  have eqv : ∀ {i : Nat}, rel i w = true → ((5 : Int) == 5 && ρ i == ρ w) = eq i w := fun hr => by
    rw [hrel _ _ hr]; rfl
  dsimp only [insT] at h
  split at h
  · rename_i i hx
    refine grd_elim h fun hr h => ?_
    obtain rfl := Option.some.inj h
    exact Cl.eq (get_constant_c (d := d + 2) (m := emb ρ kc ke kt mx t) (t := 5) (v := ρ i) (w := ρ w) (by decide) (by decide) (by show some (t.x.av ρ) = _; rw [hx]; rfl)) (congrArg AV.bool (eqv hr)) rfl
  · rename_i a hx
    refine grd_elim h fun c h => bnd_elim h fun y hi h => ?_
    have hX : (emb ρ kc ke kt mx t).xs[(1 : Int).toNat]? = some (.tup [.int 0, .int a]) := by show some (t.x.av ρ) = _; rw [hx]; rfl
    have hlen : a < (((emb ρ kc ke kt mx t).hp.length : Nat) : Int) := by show a < ((t.hp.map (Ce.av ρ)).length : Int); rw [List.length_map]; exact c.2.2.1
    have hat : (emb ρ kc ke kt mx t).hp[a.toNat]? = some (y.av ρ) := by show (t.hp.map (Ce.av ρ))[a.toNat]? = _; rw [List.getElem?_map, hi]; rfl
    cases y with
    | v i =>
      refine grd_elim h fun hr h => ?_
      obtain rfl := Option.some.inj h
      exact Cl.eq (get_constant_b (d := d + 2) (m := emb ρ kc ke kt mx t) (a := a) (t := 5) (v := ρ i) (w := ρ w) hX c.1 (by omega) (by decide) (by decide) hat) (congrArg AV.bool (eqv hr)) rfl
    | r a' =>
      refine grd_elim h fun e h => ?_
      subst e
      by_cases c2 : a' < t.hb
      · rw [if_pos c2] at h
        obtain rfl := Option.some.inj h
        refine Cl.eq (get_constant_u1 (d := d + 2) (m := emb ρ kc ke kt mx t) (a := a') (w := ρ w) hX c.1 (by omega) hlen hat c2 (by show (t.trl.map AV.int).length ≤ 90000; rw [List.length_map]; omega)) rfl ?_
        simp only [emb, List.map_set, List.map_append, Ce.av]
        rfl
      · rw [if_neg c2] at h
        obtain rfl := Option.some.inj h
        refine Cl.eq (get_constant_u0 (d := d + 2) (m := emb ρ kc ke kt mx t) (a := a') (w := ρ w) hX c.1 (by omega) hlen hat c2) rfl ?_
        simp only [emb, List.map_set, Ce.av]
    | o => cases h
    | l q => cases h
  · cases h
theorem ins_cu (h : insT eq rel g t .cu = some z) : InsOk S d H1 H2 ρ kc ke kt mx t .cu z := by
  refine grd_elim h fun c h => bnd_elim h fun y hq h => ?_
  cases y with
  | l q =>
    by_cases c2 : q < t.b
    · refine bnd_elim ((if_pos c2).symm.trans h) fun t2 hb h => ?_
      obtain rfl := Option.some.inj h
      exact cut_sound (d := d + 1) c.1 c.2 hq c2 hb
    · obtain rfl := Option.some.inj ((if_neg c2).symm.trans h)
      exact do_cut_no (d := d + 1) (m := emb ρ kc ke kt mx t) (q := q) c.1 (by show t.e + 1 + 2 < 90000; omega) (getC_at hq) c2
  | _ => cases h
theorem ins_tr (P : PgAt ρ g kc ke kt H1) (h : insT eq rel g t (.tr a) = some z) : InsOk S d H1 H2 ρ kc ke kt mx t (.tr a) z := by
  refine bnd_elim h fun q hq h => grd_elim h fun c h => ?_
  obtain rfl := Option.some.inj h
  refine Cl.eq (do_try_ok (d := d + 2) (m := emb ρ kc ke kt mx t) (t := q) (a := a) (c := t.x.av ρ) (by show sliceV (voidV :: t.x.av ρ :: []) _ _ _ = _; exact sliceV_1) (by show 2 ≤ 90000; decide) c.1 (by show q ≤ ((t.stk.map (Sl.av ρ)).length : Int); rw [List.length_map]; exact c.2.1) (by show (t.stk.map (Sl.av ρ)).length ≤ 80000; rw [List.length_map]; omega)
    (by show (t.trl.map AV.int).length ≤ 90000; rw [List.length_map]; omega) (by show (t.hp.map (Ce.av ρ)).length ≤ 90000; rw [List.length_map]; omega) (top_sound P hq)) rfl ?_
  simp only [emb, sput_map, Sl.av, List.length_map]
theorem ins_re (h : insT eq rel g t (.re a) = some z) : InsOk S d H1 H2 ρ kc ke kt mx t (.re a) z := by
  refine bnd_elim h fun t2 h2 h => grd_elim h fun c h => bnd_elim h fun k hk h => grd_elim h fun c3 h => ?_
  obtain rfl := Option.some.inj h
  refine Cl.eq (do_retry_ok (d := d + 2) (m := emb ρ kc ke kt mx t) (m2 := emb ρ kc ke kt mx t2) (k := k) (a := a) (res_sound (d := d + 2) h2) c.1 (by show t2.b < 90000; omega) (getZ_at hk) c3.1 (by show t2.b + k + 4 < 90000; omega) (by show (t2.b + k + 4).toNat < (t2.stk.map (Sl.av ρ)).length; rw [List.length_map]; omega)) rfl ?_
  simp only [emb, List.map_set, Sl.av]
theorem ins_tu (h : insT eq rel g t (.tu a) = some z) : InsOk S d H1 H2 ρ kc ke kt mx t (.tu a) z := by
  refine bnd_elim h fun t2 h2 h => grd_elim h fun c h => bnd_elim h fun k hk h => grd_elim h fun c3 h => bnd_elim h fun q hq h => bnd_elim h fun t3 hb h => ?_
  obtain rfl := Option.some.inj h
  exact do_trust_ok (d := d + 2) (m := emb ρ kc ke kt mx t) (m2 := emb ρ kc ke kt mx t2) (m3 := emb ρ kc ke kt mx t3) (a := a) (res_sound (d := d + 2) h2) (setB_sound (d := d + 2) c.1 c.2 hk c3.1 c3.2 hq hb)
theorem ins_sound (hrel : ∀ i w, rel i w = true → eq i w = decide (ρ i = ρ w)) (P : PgAt ρ g kc ke kt H1) {i : In} (h : insT eq rel g t i = some z) : InsOk S d H1 H2 ρ kc ke kt mx t i z := by
  cases i with
  | fail => cases h
  | halt => obtain rfl := Option.some.inj h; exact do_halt_ok (m := emb ρ kc ke kt mx t)
  | pr => obtain rfl := Option.some.inj h; exact do_proceed_ok (m := emb ρ kc ke kt mx t)
  | ca =>
    obtain rfl := Option.some.inj h
    obtain ⟨l, h1, h2, h3⟩ := P.e
    exact do_call_ok (d := d + 4) (m := emb ρ kc ke kt mx t) h1 h2
  | ex =>
    obtain rfl := Option.some.inj h
    obtain ⟨l, h1, h2, h3⟩ := P.e
    exact do_execute_ok (d := d + 4) (m := emb ρ kc ke kt mx t) h1 h3
  | al => exact ins_al P h
  | de => exact ins_de h
  | gl => exact ins_gl h
  | gv => exact ins_gv h
  | pv => exact ins_pv h
  | gc w => exact ins_gc hrel h
  | cu => exact ins_cu h
  | tr a => exact ins_tr P h
  | re a => exact ins_re h
  | tu a => exact ins_tu h
end
theorem step_sound (hrel : ∀ i w, rel i w = true → eq i w = decide (ρ i = ρ w)) (P : PgAt ρ g kc ke kt H1) (h : stepT eq rel g t = some t') (hm : t.steps < mx) :
    Cl S.W true (d + 9) a_Emulator_step [.obj H1.length] (MH H1 (emb ρ kc ke kt mx t) H2) .none (MH H1 (emb ρ kc ke kt mx t') H2) := by
  refine grd_elim h fun c h => bnd_elim h fun i hi h => bnd_elim h fun z h2 h => ?_
  have hc : (codeAV ρ g.code)[t.p.toNat]? = some (.tup (.str i.nm :: i.as ρ)) := by
    unfold codeAV
    rw [List.getElem?_map, hi]; rfl
  have hI := ins_sound (S := S) (d := d) (H1 := H1) (H2 := H2) (kc := kc) (ke := ke) (kt := kt) (mx := mx) hrel P h2
  obtain ⟨b, t2⟩ := z
  cases b with
  | true =>
    obtain rfl := Option.some.inj h
    exact step_true (m := emb ρ kc ke kt mx t) (m2 := emb ρ kc ke kt mx t2) (code := codeAV ρ g.code) (as := i.as ρ) (nm := i.nm) (fa := i.fa) hm P.c c.1 (by show t.p < 90000; omega) hc i.tab P.t (i.keep _ h2) rfl hI
  | false => exact step_false (m := emb ρ kc ke kt mx t) (m2 := emb ρ kc ke kt mx t2) (m3 := emb ρ kc ke kt mx t') (code := codeAV ρ g.code) (as := i.as ρ) (nm := i.nm) (fa := i.fa) hm P.c c.1 (by show t.p < 90000; omega) hc i.tab P.t (i.keep _ h2) rfl hI (bt_sound (d := d + 3) h)
end
end
section
inductive Chn (eq rel : Nat → Nat → Bool) (g : Pg) : Nat → TM → TM → Prop
  | done {t : TM} : Chn eq rel g 0 t t
  | step {k : Nat} {t t1 t2 : TM} : t.halted = false → stepT eq rel g t = some t1 → t1.steps = t.steps + 1 → Chn eq rel g k t1 t2 → Chn eq rel g (k + 1) t t2
section
variable {eq rel : Nat → Nat → Bool} {g : Pg}
theorem run_chn : ∀ {n : Nat} {t t' : TM}, runT eq rel g n t = some t' → ∃ k, k < n ∧ Chn eq rel g k t t' ∧ t'.halted = true
  | 0, _, _, h => by cases h
  | n + 1, t, t', h => by
    unfold runT at h
    by_cases c : t.halted = true
    · rw [if_pos c] at h
      cases h
      exact ⟨0, Nat.succ_pos _, .done, c⟩
    · rw [if_neg c] at h
      cases hs : stepT eq rel g t with
      | none => rw [hs] at h; cases h
      | some t1 =>
        rw [hs] at h
        dsimp only at h
        by_cases c2 : t1.steps = t.steps + 1
        · rw [if_pos c2] at h
          obtain ⟨k, h1, h2, h3⟩ := run_chn h
          exact ⟨k + 1, Nat.succ_lt_succ h1, .step (by simpa using c) hs c2 h2, h3⟩
        · rw [if_neg c2] at h; cases h
theorem Chn.steps {k : Nat} {t t' : TM} (h : Chn eq rel g k t t') : t'.steps = t.steps + (k : Nat) := by
  induction h with
  | done => simp
  | step _ _ h _ ih => rw [ih, h]; push_cast; omega
theorem Chn.split {k : Nat} {t t' : TM} (h : Chn eq rel g k t t') : ∀ j, j ≤ k → ∃ t1, Chn eq rel g j t t1 ∧ Chn eq rel g (k - j) t1 t' := by
  induction h with
  | done => intro j hj; exact ⟨_, by rw [Nat.le_zero.mp hj]; exact .done, by rw [Nat.le_zero.mp hj]; exact .done⟩
  | step a b c r ih =>
    intro j hj
    cases j with
    | zero => exact ⟨_, .done, .step a b c r⟩
    | succ j =>
      obtain ⟨t1, h1, h2⟩ := ih j (Nat.le_of_succ_le_succ hj)
      exact ⟨t1, .step a b c h1, by rw [Nat.succ_sub_succ]; exact h2⟩
theorem Chn.runs {k : Nat} {t t' : TM} (h : Chn eq rel g k t t') (hk : 0 < k) : t.halted = false := by
  cases h with
  | done => cases hk
  | step a _ _ _ => exact a
noncomputable def Pre (more : Bool) (t t1 : TM) : Prop := if more then t.failed = false ∧ btT { t with halted := false } = some t1 ∧ t1.steps = t.steps else t1 = t
noncomputable def AnsOk (t : TM) (v : Bool) (d : Nat) : Prop := if v then t.hp = [.v d] else d = 5
inductive Turns (eq rel : Nat → Nat → Bool) (g : Pg) (v : Bool) : Bool → TM → List Nat → Prop
  | last {more : Bool} {t t1 t2 : TM} {k : Nat} : Pre more t t1 → Chn eq rel g k t1 t2 → k < 100 → t2.halted = true → t2.failed = true → t2.b = -1 → Turns eq rel g v more t []
  | next {more : Bool} {t t1 t2 : TM} {k d : Nat} {ds : List Nat} : Pre more t t1 → Chn eq rel g k t1 t2 → k < 100 → t2.halted = true → t2.failed = false → AnsOk t2 v d → Turns eq rel g v true t2 ds → Turns eq rel g v more t (d :: ds)
theorem turns_of {v : Bool} : ∀ {ds : List Nat} {more : Bool} {t t1 : TM}, Pre more t t1 → allT eq rel g v t1 ds = true → Turns eq rel g v more t ds
  | [], more, t, t1, hp, h => by
    unfold allT at h
    cases hr : runT eq rel g 100 t1 with
    | none => rw [hr] at h; cases h
    | some t2 =>
      rw [hr] at h
      simp only [Bool.and_eq_true, decide_eq_true_eq] at h
      obtain ⟨k, h1, h2, h3⟩ := run_chn hr
      exact .last hp h2 h1 h3 h.1 h.2
  | d :: ds, more, t, t1, hp, h => by
    unfold allT at h
    cases hr : runT eq rel g 100 t1 with
    | none => rw [hr] at h; cases h
    | some t2 =>
      rw [hr] at h
      simp only [Bool.and_eq_true, Bool.not_eq_true'] at h
      obtain ⟨⟨h4, h5⟩, h6⟩ := h
      obtain ⟨k, h1, h2, h3⟩ := run_chn hr
      have ha : AnsOk t2 v d := by
        unfold ansT at h5
        unfold AnsOk
        cases v with
        | true =>
          rw [if_pos rfl] at h5 ⊢
          split at h5
          · rename_i i hi
            split at hi
            · rename_i j hj
              cases hi
              rw [hj]
              rw [beq_iff_eq.mp h5]
            · cases hi
          · cases h5
        | false =>
          rw [if_neg Bool.false_ne_true] at h5 ⊢
          exact (beq_iff_eq.mp h5).symm
      cases hb : btT { t2 with halted := false } with
      | none => rw [hb] at h6; cases h6
      | some t3 =>
        rw [hb] at h6
        simp only [Bool.and_eq_true, decide_eq_true_eq] at h6
        refine .next hp h2 h1 h3 h4 ha (turns_of (t1 := t3) ?_ h6.2)
        unfold Pre
        rw [if_pos rfl]
        exact ⟨h4, hb, h6.1⟩
end
section
variable {S : St0} {ρ : Nat → Int} {g : Pg} {kc ke kt : Nat} {eq rel : Nat → Nat → Bool}
theorem chn_stps {d k : Nat} {H1 H2 : Hp} {t t' : TM} {mx : Int} (hrel : ∀ i w, rel i w = true → eq i w = decide (ρ i = ρ w)) (P : PgAt ρ g kc ke kt H1) (h : Chn eq rel g k t t') : t.steps + (k : Nat) ≤ mx → Stps S (d + 9) H1 H2 k (emb ρ kc ke kt mx t) (emb ρ kc ke kt mx t') := by
  induction h with
  | done => intro _; exact .done
  | step a b c r ih =>
    intro hm
    push_cast at hm
    exact .step a (step_sound hrel P b (by omega)) (ih (by omega))
theorem chn_max {k : Nat} {t t' : TM} (h : Chn eq rel g k t t') (hk : 0 < k) : t.steps + (k : Nat) ≤ 4000 := by
  have step_lt : ∀ {t t1 : TM}, stepT eq rel g t = some t1 → t.steps < 4000 := by
    intro t t1 h
    exact grd_elim h fun c _ => c.2.2
  induction h with
  | done => cases hk
  | step a b c r ih =>
    rename_i k t t1 t2
    cases k with
    | zero => have := step_lt b; push_cast; omega
    | succ k =>
      have := ih (Nat.succ_pos _)
      push_cast at this ⊢
      omega
theorem Goes.mono {Ok : Hp → Prop} {n : Nat} {more : Bool} {m m2 : Mc} {r : Bool} (h : Goes S Ok n more m r m2) : ∀ {n' : Nat}, n ≤ n' → Goes S Ok n' more m r m2 := by
  induction h with
  | fin hc hle => intro n' _; exact .fin hc hle
  | stop hc h1 h2 _ ih =>
    intro n' hn
    cases n' with
    | zero => cases hn
    | succ n' => exact .stop hc h1 h2 fun dg a b => ih dg a b (Nat.le_of_succ_le_succ hn)
variable {Ok : Hp → Prop} (hrel : ∀ i w, rel i w = true → eq i w = decide (ρ i = ρ w)) (hOk : ∀ H1, Ok H1 → PgAt ρ g kc ke kt H1)
include hrel hOk
theorem goes_a {t2 : TM} (hh : t2.halted = true) {mz : Int} : ∀ (n k : Nat) (t : TM) (mx : Int), k ≤ n → Chn eq rel g k t t2 → t.steps + 1 ≤ mx → Goes S Ok k false (emb ρ kc ke kt mx t) (!t2.failed) (emb ρ kc ke kt mz t2)
  | 0, k, t, mx, hn, h, hm => by
    have : k = 0 := Nat.le_zero.mp hn
    subst this
    refine .fin (fun H1 H2 ho => ?_) (by show t2.steps ≤ mx; have := h.steps; push_cast at this; omega)
    exact run_ok (d := 694) (chn_stps (d := 686) hrel (hOk H1 ho) h (by push_cast; omega)) hh
  | n + 1, k, t, mx, hn, h, hm => by
    by_cases c : t.steps + (k : Nat) ≤ mx
    · refine .fin (fun H1 H2 ho => ?_) (by show t2.steps ≤ mx; have := h.steps; omega)
      exact run_ok (d := 694) (chn_stps (d := 686) hrel (hOk H1 ho) h c) hh
    · have hj : (mx - t.steps).toNat < k := by omega
      have hj0 : 0 < (mx - t.steps).toNat := by omega
      obtain ⟨t1, h1, h2⟩ := h.split _ (Nat.le_of_lt hj)
      have hs := h1.steps
      have hs' : t1.steps = mx := by omega
      obtain ⟨k', rfl⟩ : ∃ k', k = k' + 1 := ⟨k - 1, by omega⟩
      have nh : t1.halted = false := h2.runs (by omega)
      refine .stop (m1 := emb ρ kc ke kt mx t1) (fun H1 H2 ho => ?_) hs' nh fun dg d0 d9 => ?_
      · exact run_raise (d := 692) (chn_stps (d := 686) hrel (hOk H1 ho) h1 (by omega)) nh (by show mx ≤ t1.steps; omega)
      · refine Goes.mono (goes_a hh n _ t1 (mx + (1 + dg)) (by omega) h2 (by omega)) (by omega)
theorem goes_b {t t2 : TM} (hh : t2.halted = true) {mx mz : Int} {k : Nat} (h : Chn eq rel g k t t2) (hm : t.steps ≤ mx) : Goes S Ok (k + 1) false (emb ρ kc ke kt mx t) (!t2.failed) (emb ρ kc ke kt mz t2) := by
  by_cases c : t.steps + 1 ≤ mx
  · exact Goes.mono (goes_a hrel hOk hh k k t mx (Nat.le_refl _) h c) (Nat.le_succ _)
  · have hs : t.steps = mx := by omega
    cases k with
    | zero =>
      refine .fin (fun H1 H2 ho => ?_) (by show t2.steps ≤ mx; have := h.steps; push_cast at this; omega)
      exact run_ok (d := 694) (chn_stps (d := 686) hrel (hOk H1 ho) h (by push_cast; omega)) hh
    | succ k =>
      refine .stop (m1 := emb ρ kc ke kt mx t) (fun H1 H2 ho => ?_) hs (h.runs (Nat.succ_pos _)) fun dg d0 d9 => ?_
      · exact run_raise (d := 692) (k := 0) .done (h.runs (Nat.succ_pos _)) (by show mx ≤ t.steps; omega)
      · exact goes_a hrel hOk hh (k + 1) (k + 1) t (mx + (1 + dg)) (Nat.le_refl _) h (by omega)
theorem goes_turn {more : Bool} {t t1 t2 : TM} {k : Nat} (hp : Pre more t t1) (h : Chn eq rel g k t1 t2) (hh : t2.halted = true) {mx mz : Int} (hm : t.steps ≤ mx) : Goes S Ok (k + 1) more (emb ρ kc ke kt mx t) (!t2.failed) (emb ρ kc ke kt mz t2) := by
  cases more with
  | false =>
    have hp : t1 = t := hp
    subst hp
    exact goes_b hrel hOk hh h hm
  | true =>
    have hp : t.failed = false ∧ btT { t with halted := false } = some t1 ∧ t1.steps = t.steps := hp
    obtain ⟨p1, p2, p3⟩ := hp
    have bt : ∀ {H1 H2 : Hp}, Cl S.W true 695 a_Emulator_backtrack [.obj H1.length] (MH H1 ((emb ρ kc ke kt mx t).w_halted false) H2) .none (MH H1 (emb ρ kc ke kt mx t1) H2) := fun {H1 H2} => bt_sound (d := 690) (t := { t with halted := false }) p2
    by_cases c : t1.steps + (k : Nat) ≤ mx
    · refine .fin (fun H1 H2 ho => ?_) (by show t2.steps ≤ mx; have := h.steps; omega)
      exact redo_ok (d := 694) (m := emb ρ kc ke kt mx t) p1 bt (run_ok (d := 693) (chn_stps (d := 685) hrel (hOk H1 ho) h c) hh)
    · have hj : (mx - t1.steps).toNat < k := by omega
      obtain ⟨t3, h1, h2⟩ := h.split _ (Nat.le_of_lt hj)
      have hs := h1.steps
      have hs' : t3.steps = mx := by omega
      have nh : t3.halted = false := h2.runs (by omega)
      refine .stop (m1 := emb ρ kc ke kt mx t3) (fun H1 H2 ho => ?_) hs' nh fun dg d0 d9 => ?_
      · have := redo_raise (S := S) (d := 694) (H1 := H1) (H2 := H2) (m := emb ρ kc ke kt mx t) p1 bt (run_raise (d := 691) (chn_stps (d := 685) hrel (hOk H1 ho) h1 (by omega)) nh (by show mx ≤ t3.steps; omega))
        exact this
      · exact Goes.mono (goes_a hrel hOk hh _ _ t3 (mx + (1 + dg)) (Nat.le_refl _) h2 (by omega)) (by omega)
theorem great_turn {more : Bool} {t t1 t2 : TM} {k : Nat} (hp : Pre more t t1) (h : Chn eq rel g k t1 t2) (hh : t2.halted = true) {H1 H2 : Hp} (ho : Ok H1) :
    Cl S.W true 696 (if more then a_Emulator_redo else a_Emulator_run) [.obj H1.length] (MH H1 (emb ρ kc ke kt 5000 t) H2) (.bool (!t2.failed)) (MH H1 (emb ρ kc ke kt 5000 t2) H2) := by
  have stps : ∀ d, Stps S (d + 9) H1 H2 k (emb ρ kc ke kt 5000 t1) (emb ρ kc ke kt 5000 t2) := fun d => by
    cases k with
    | zero =>
      cases h
      exact .done
    | succ k =>
      have := chn_max h (Nat.succ_pos _)
      exact chn_stps hrel (hOk H1 ho) h (by omega)
  cases more with
  | false =>
    have hp : t1 = t := hp
    subst hp
    exact run_ok (d := 694) (stps 686) hh
  | true =>
    have hp : t.failed = false ∧ btT { t with halted := false } = some t1 ∧ t1.steps = t.steps := hp
    obtain ⟨p1, p2, p3⟩ := hp
    have bt : Cl S.W true 695 a_Emulator_backtrack [.obj H1.length] (MH H1 ((emb ρ kc ke kt 5000 t).w_halted false) H2) .none (MH H1 (emb ρ kc ke kt 5000 t1) H2) := bt_sound (d := 690) (t := { t with halted := false }) p2
    exact redo_ok (d := 694) (m := emb ρ kc ke kt 5000 t) p1 bt (run_ok (d := 693) (stps 685) hh)
end
end
section
theorem clos_loop {env : Env} (f : Str × NameKind → List (Str × Addr) → Sem (ForInStep (List (Str × Addr)))) (h1 : ∀ n k cs, (k == NameKind.free) = false → f (n, k) cs = pure (.yield cs)) (h2 : ∀ n cs a, env.cells.lookup n = some a → f (n, .free) cs = pure (.yield ((n, a) :: cs))) :
    ∀ (names : List (Str × NameKind)) (cs : List (Str × Addr)), (∀ x ∈ names, x.2 = .free → ∃ a, env.cells.lookup x.1 = some a) → (∀ y a, cs.lookup y = some a → env.cells.lookup y = some a) →
      ∃ cl, forIn names cs f = pure cl ∧ (∀ y a, cl.lookup y = some a → env.cells.lookup y = some a) ∧ (∀ y, (cs.lookup y).isSome = true ∨ (y, .free) ∈ names → (cl.lookup y).isSome = true)
  | [], cs, _, hc => ⟨cs, by rw [List.forIn_nil], hc, fun y h => h.elim id fun q => nomatch q⟩
  | (n, k) :: names, cs, hn, hc => by
    cases hk : (k == NameKind.free) with
    | false =>
      obtain ⟨cl, e1, e2, e3⟩ := clos_loop f h1 h2 names cs (fun x hx => hn x (.tail _ hx)) hc
      refine ⟨cl, by rw [List.forIn_cons, h1 n k cs hk, pure_bind]; exact e1, e2, fun y h => e3 y ?_⟩
      rcases h with h | h
      · exact .inl h
      · rcases List.mem_cons.mp h with h | h
        · cases h; cases hk
        · exact .inr h
    | true =>
      have hk' : k = .free := by cases k <;> first | rfl | (cases hk)
      subst hk'
      obtain ⟨a, ha⟩ := hn (n, .free) (.head _) rfl
      obtain ⟨cl, e1, e2, e3⟩ := clos_loop f h1 h2 names ((n, a) :: cs) (fun x hx => hn x (.tail _ hx)) (fun y b q => by
        rw [List.lookup_cons] at q
        cases hy : y == n with
        | true => rw [hy] at q; cases q; rw [beq_iff_eq.mp hy]; exact ha
        | false => rw [hy] at q; exact hc y b q)
      refine ⟨cl, by rw [List.forIn_cons, h2 n cs a ha, pure_bind]; exact e1, e2, fun y h => e3 y ?_⟩
      have key : y = n → ((List.lookup y ((n, a) :: cs)).isSome = true) := fun e => by rw [e, List.lookup_cons, beq_self_eq_true]; rfl
      rcases h with h | h
      · refine .inl ?_
        rw [List.lookup_cons]
        cases hy : y == n with
        | true => rfl
        | false => exact h
      · rcases List.mem_cons.mp h with h | h
        · cases h; exact .inl (key rfl)
        · exact .inr h
noncomputable def cellsOk (scope sc : Scope) : Bool := scope.names.all fun x => x.2 != .free || sc.names.lookup x.1 == some .cell
theorem look_mem2 {y : Str} {k : NameKind} : ∀ {l : List (Str × NameKind)}, l.lookup y = some k → (y, k) ∈ l
  | [], h => by cases h
  | z :: l, h => by
    rw [List.lookup_cons] at h
    cases q : y == z.1 with
    | true => rw [q] at h; cases h; rw [beq_iff_eq.mp q]; exact .head _
    | false => rw [q] at h; exact .tail _ (look_mem2 h)
theorem relabel_look {scope : Scope} {env : Env} {x : Str} : (relabel scope env).names.lookup x = (scope.names.lookup x).map fun k => if (k == .free && env.scope.kind == .function && env.kindOf x == some .cell) then .cell else k := by
  show List.lookup x (scope.names.map _) = _
  generalize scope.names = l
  induction l with
  | nil => rfl
  | cons z l ih =>
    rw [List.map_cons]
    obtain ⟨n, k⟩ := z
    cases hx : x == n with
    | true =>
      have e := beq_iff_eq.mp hx
      subst e
      dsimp only
      split
      · rename_i h; rw [List.lookup_cons, List.lookup_cons, beq_self_eq_true]; simp only [Option.map_some, h, if_true]
      · rename_i h; rw [List.lookup_cons, List.lookup_cons, beq_self_eq_true]; simp only [Option.map_some, if_neg h]
    | false =>
      dsimp only
      split
      · rw [List.lookup_cons, List.lookup_cons]; simp only [hx]; exact ih
      · rw [List.lookup_cons, List.lookup_cons]; simp only [hx]; exact ih
section
variable {W : Wd} {b : Bool} {d : Nat} {sc scope : Scope} {c : Cx}
theorem clos_ok (O : CxOk W b d sc c) (h : cellsOk scope sc = true) : ∃ cl, closureFor scope (c.env sc) = pure cl ∧ ∀ y, scope.names.lookup y = some .free → ∃ a, cl.lookup y = some a ∧ c.cl.lookup y = some a := by
  have h' : ∀ x ∈ scope.names, x.2 = .free → ∃ a, (c.env sc).cells.lookup x.1 = some a := fun x hx hf => by
    have := List.all_eq_true.mp h x hx
    rw [hf] at this
    exact O.lc2 x.1 (by simpa using this)
  obtain ⟨cl, e1, e2, e3⟩ := clos_loop (env := c.env sc) (fun x r => match x with | (name, kind) => if (kind == NameKind.free) = true then do let a ← cellOf (c.env sc) name; pure (.yield ((name, a) :: r)) else pure (.yield r)) (fun n k cs hk => by simp only [hk, Bool.false_eq_true, if_false]) (fun n cs a ha => by
    show (if (NameKind.free == NameKind.free) = true then _ else _) = _
    rw [if_pos (by decide)]
    unfold cellOf
    rw [ha]
    rfl) scope.names [] h' (fun y a q => by cases q)
  refine ⟨cl, ?_, fun y hy => ?_⟩
  · have e : closureFor scope (c.env sc) = (forIn scope.names ([] : List (Str × Addr)) (fun x r => match x with | (name, kind) => if (kind == NameKind.free) = true then do let a ← cellOf (c.env sc) name; pure (ForInStep.yield ((name, a) :: r)) else pure (ForInStep.yield r)) >>= fun r => pure r) := rfl
    rw [e, e1, pure_bind]
  · have := e3 y (.inr (look_mem2 hy))
    obtain ⟨a, ha⟩ := Option.isSome_iff_exists.mp this
    exact ⟨a, ha, e2 y a ha⟩
end
noncomputable def ClosAt (scope sc : Scope) (c : Cx) (cl : List (Str × Addr)) : Prop := ∀ y, scope.names.lookup y = some .free → ∃ a, cl.lookup y = some a ∧ c.cl.lookup y = some a
section
variable (W : Wd) (d : Nat) (sc scope : Scope) (kC : Nat)
noncomputable def EvC (e : PySem.Expr) (fr : Fr2) (G : Hp) (v : AV) (G' : Hp) : Prop :=
  ∀ (c : Cx), CxOk W true d sc c → ∀ (cl : List (Str × Addr)), ClosAt scope sc c cl → ∀ (s : Shared) (m : Str → Option Value) (x : LW) (q : Addr × Addr), x.ad[kC]? = some q → At W c m G s.heap x → FrR W.kp c x fr m → ∀ (Q : Value → Shared → Prop) (E : Value → Shared → Prop),
    (∀ u h' t' x', At W c m G' h' x' → Ext x x' → VR W.kp x' v u → Q u { s with heap := h', toks := t' }) → wpAny (model W.prog W.w) c.A (eval e (compEnvC scope cl q.1 (c.env sc))) Q E s
noncomputable def EvsC (es : List PySem.Expr) (fr : Fr2) (G : Hp) (vs : List AV) (G' : Hp) : Prop :=
  ∀ (c : Cx), CxOk W true d sc c → ∀ (cl : List (Str × Addr)), ClosAt scope sc c cl → ∀ (s : Shared) (m : Str → Option Value) (x : LW) (q : Addr × Addr), x.ad[kC]? = some q → At W c m G s.heap x → FrR W.kp c x fr m → ∀ (pos : Pos) (Q : List Value → Shared → Prop) (E : Value → Shared → Prop),
    (∀ us h' t' x', At W c m G' h' x' → Ext x x' → VRs W.kp x' vs us → Q us { s with heap := h', toks := t' }) → wpAny (model W.prog W.w) c.A (spliced (backTo pos (starEach es (compEnvC scope cl q.1 (c.env sc))))) Q E s
noncomputable def TsC (e : PySem.Expr) (fr : Fr2) (G : Hp) (v : Bool) (G' : Hp) : Prop :=
  ∀ (c : Cx), CxOk W true d sc c → ∀ (cl : List (Str × Addr)), ClosAt scope sc c cl → ∀ (s : Shared) (m : Str → Option Value) (x : LW) (q : Addr × Addr), x.ad[kC]? = some q → At W c m G s.heap x → FrR W.kp c x fr m → ∀ (Q : Bool → Shared → Prop) (E : Value → Shared → Prop),
    (∀ h' t' x', At W c m G' h' x' → Ext x x' → Q v { s with heap := h', toks := t' }) → wpAny (model W.prog W.w) c.A (isTrue e (compEnvC scope cl q.1 (c.env sc)) (eval e (compEnvC scope cl q.1 (c.env sc)))) Q E s
noncomputable def TstC (ifs : List PySem.Expr) (fr : Fr2) (G : Hp) (v : Bool) (G' : Hp) : Prop :=
  ∀ (c : Cx), CxOk W true d sc c → ∀ (cl : List (Str × Addr)), ClosAt scope sc c cl → ∀ (s : Shared) (m : Str → Option Value) (x : LW) (q : Addr × Addr), x.ad[kC]? = some q → At W c m G s.heap x → FrR W.kp c x fr m → ∀ (Q : Bool → Shared → Prop) (E : Value → Shared → Prop),
    (∀ h' t' x', At W c m G' h' x' → Ext x x' → Q v { s with heap := h', toks := t' }) →
    wpAny (model W.prog W.w) c.A (forIn ifs true fun e r => if r = true then do let ok ← isTrue e (compEnvC scope cl q.1 (c.env sc)) (eval e (compEnvC scope cl q.1 (c.env sc))); pure (ForInStep.yield ok) else pure (ForInStep.yield r)) Q E s
end
section
variable {W : Wd} {d : Nat} {sc scope : Scope} {kC : Nat} {fr : Fr2} {G G₁ G₂ G₃ : Hp} {v v' : AV} {e e' : PySem.Expr} {p : Pos}
theorem NsO.ns {o : Obj} {m : Str → Option Value} {h : Heap} {a : Addr} (n : NsO o m) (g : h.get? a = some o) : h.Ns a m := let ⟨es, ep, h1, h2, h3⟩ := n; ⟨o, es, ep, g, h1, h2, h3⟩
theorem NsO.of {m : Str → Option Value} {h : Heap} {a : Addr} (n : h.Ns a m) : ∃ o, h.get? a = some o ∧ NsO o m := let ⟨o, es, ep, g, h1, h2, h3⟩ := n; ⟨o, g, es, ep, h1, h2, h3⟩
theorem EvC.loc {y : Str} {l : List (Str × AV)} (hG : G[kC]? = some (.ns l)) (hm : (y, v) ∈ l) (hx : scope.names.lookup y = some .local) (hk : scope.kind = .function) (hd : (y == ("__debug__" : Str)) = false) : EvC W d sc scope kC (.Name y p) fr G v G := by
  intro c O cl hcl s m x q hq A F Q E h
  obtain ⟨o, mm, m1, hn, hv⟩ := A.ok.objs kC _ q hG hq
  obtain ⟨u, hu, r⟩ := hv y v hm
  exact wpAny_Name (wpAny_loadName_local (by exact hk) (lookup_relabel_local hx) (hn.ns (A.N.get m1)) hu (h u s.heap s.toks x A (Ext.refl x) r)) hd
theorem EvC.cell {y : Str} {ns : List Str} {vs : List (Option AV)} (l : Loc ns vs y v) (hx : scope.names.lookup y = some .free) (hs : sc.names.lookup y = some .cell) (hk : scope.kind = .function) (hd : (y == ("__debug__" : Str)) = false) : EvC W d sc scope kC (.Name y p) (ns, vs) G v G := by
  intro c O cl hcl s m x q hq A F Q E h
  obtain ⟨u, hu, r⟩ := F.2 y v l
  obtain ⟨a, h1, h2⟩ := hcl y hx
  rcases hu with ⟨hu, _⟩ | ⟨a', o, h3, h4, h5, h6⟩
  · rw [h2] at hu; cases hu
  · rw [h2] at h3
    cases h3
    refine wpAny_Name (wpAny_loadName_cell (by exact hk) ?_ h1 ⟨o, A.N.get h4, h6⟩ (h u s.heap s.toks x A (Ext.refl x) r)) hd
    show (relabel scope (c.env sc)).names.lookup y = _
    rw [relabel_look, hx]
    have hkk : ((c.env sc).scope.kind == ScopeKind.function) = true := by rw [show (c.env sc).scope.kind = sc.kind from rfl, O.hk]; rfl
    have hkc : ((c.env sc).kindOf y == some NameKind.cell) = true := by rw [show (c.env sc).kindOf y = sc.names.lookup y from rfl, hs]; rfl
    simp only [Option.map_some, hkk, hkc]
    rfl
theorem EvC.glob {y : Str} {u : Value} (e : nsIn W.K mainGlobals y = some (some u)) (r : ∀ x, VR W.kp x v u) (hx : scope.names.lookup y = some .globalImplicit) (hk : scope.kind = .function) (hd : (y == ("__debug__" : Str)) = false) : EvC W d sc scope kC (.Name y p) fr G v G := by
  intro c O cl hcl s m x q hq A F Q E h
  refine nameG_K A.F O.X (topRead_of O.T) e (h u s.heap s.toks x A (Ext.refl x) (r x)) rfl hk ?_ hd
  show (relabel scope (c.env sc)).names.lookup y = _
  rw [relabel_look, hx]
  rfl
theorem EvC.int {i : Int} {k : Nat} : EvC W d sc scope kC (.Constant (.int i) k p) fr G (.int i) G := by
  intro c O cl hcl s m x q hq A F Q E h
  exact wpAny_Constant_int (h _ s.heap _ x A (Ext.refl x) (.int i _))
theorem EvC.str {i : Str} {k : Nat} : EvC W d sc scope kC (.Constant (.str i) k p) fr G (.str i) G := by
  intro c O cl hcl s m x q hq A F Q E h
  exact wpAny_Constant_str (h _ s.heap _ x A (Ext.refl x) (.str i _))
theorem EvsC.nil : EvsC W d sc scope kC [] fr G [] G := by
  intro c O cl hcl s m x q hq A F pos Q E h
  exact Calls.spliced_nil (h [] s.heap s.toks x A (Ext.refl x) .nil)
theorem EvsC.cons {es : List PySem.Expr} {vs : List AV} (h1 : EvC W d sc scope kC e fr G v G₁) (h2 : EvsC W d sc scope kC es fr G₁ vs G₂) (hst : ∀ env, starEach (e :: es) env = (false, eval e env) :: starEach es env) : EvsC W d sc scope kC (e :: es) fr G (v :: vs) G₂ := by
  intro c O cl hcl s m x q hq A F pos Q E h
  refine spliced_more (h1 c O cl hcl s m x q hq A F _ _ fun u h' t' x' A' e' r' => ?_) (hst _)
  exact h2 c O cl hcl _ m x' q (e'.at hq) A' (F.mono e') _ _ _ fun us h2' t2 x2 A2 e2 r2 => h _ _ _ x2 A2 (e'.trans e2) (.cons (r'.mono e2) r2)
theorem EvC.tuple {es : List PySem.Expr} {l : List AV} {k : Nat} (h1 : EvsC W d sc scope kC es fr G l G₁) (hl : l.length ≤ 1000) : EvC W d sc scope kC (.Tuple es k p) fr G (.tup l) G₁ := by
  intro c O cl hcl s m x q hq A F Q E h
  refine Tuple_ (h1 c O cl hcl s m x q hq A F _ _ _ fun us h' t' x' A' e' r' => ?_)
  have fk := fresh_key A'
  refine PySem.wpAny_newTuple (h _ _ _ _ (A'.more (o := tupO us 0) rfl) (e'.trans (LW.more_ext fk)) (.tup (.head _) (LW.more_off A'.ok fk) (r'.mono (LW.more_ext fk)))) ?_
  have := r'.length
  show us.length ≤ 2 ^ 24
  omega
theorem EvC.callFn {f : Str} {np : Pos} {fa : Addr} {es : List PySem.Expr} {vs : List AV} (h0 : EvC W (d + 1) sc scope kC (.Name f np) fr G (.val (.ref fa)) G) (h1 : EvsC W (d + 1) sc scope kC (e :: es) fr G vs G₁) (hk : keepIn W.K (.ref fa) = true)
    (hst : ∀ env, starEach (e :: es) env = (false, eval e env) :: starEach es env) (hp : ∀ pos env, (backTo pos (starEach es env)).any (·.1) = false) (h2 : Cl W true (d + 1) fa vs G₁ v G₂) : EvC W (d + 1) sc scope kC (.Call (.Name f np) (e :: es) [] p) fr G v G₂ := by
  intro c O cl hcl s m x q hq A F Q E h
  refine wpAny_Call_ofName (h0 c O cl hcl s m x q hq A F _ _ fun u h' t' x' A' e' r' => ?_)
  first | obtain rfl := VR.v r' | obtain ⟨_, rfl⟩ := VR.i r' | obtain rfl := VR.t r' | obtain rfl := VR.n r' | obtain ⟨_, rfl⟩ := VR.s r' | cases r'
  refine callWith_K (K := W.K) (h₀ := c.h₀) O.X hk ?_ (hst _) (hp _ _)
  refine h1 c O cl hcl _ m x' q (e'.at hq) A' (F.mono e') _ _ _ fun us h2' t2 x2 A2 e2 r2 => ⟨O.X.keeps A2.F.keep, ?_⟩
  refine wpAny_call ?_
  exact h2 sc c O _ m x2 A2 us r2 _ fun u h3 t3 x3 A3 e3 r3 => h _ _ _ x3 A3 ((e'.trans e2).trans e3) r3
theorem TsC.cmp {l r : PySem.Expr} {op : CmpOp} {t : Bool} (h1 : EvC W d sc scope kC l fr G v G₁) (h2 : EvC W d sc scope kC r fr G₁ v' G₂) (hc : CmpR W op v v' t) (hm : behindInMarks op r = false) : TsC W d sc scope kC (.Compare l [op] [r] p) fr G t G₂ := by
  intro c O cl hcl s m x q hq A F Q E h
  refine wpAny_isTrue_Compare1 (h1 c O cl hcl s m x q hq A F _ _ fun u h' t' x' A' e' r' => ?_) hm
  refine h2 c O cl hcl _ m x' q (e'.at hq) A' (F.mono e') _ _ fun u2 h2' t2 x2 A2 e2 r2 => ?_
  exact hc c _ m G₂ x2 u u2 _ E O.X (by have := O.un; omega) A2 (r'.mono e2) r2 fun t => wpAny_truthy_bool (h _ t x2 A2 (e'.trans e2))
theorem TsC.orT {l : PySem.Expr} {r : List PySem.Expr} (h1 : TsC W d sc scope kC l fr G true G₁) : TsC W d sc scope kC (.BoolOp .Or (l :: r) p) fr G true G₁ := by
  intro c O cl hcl s m x q hq A F Q E h
  refine wpAny_isTrue_BoolOp ?_
  show wpAny _ _ (do match BoolOp.Or, ← isTrue l _ (eval l _) with | .And, false => pure false | .Or, true => pure true | _, _ => allTrue .Or r _) Q E s
  refine wpAny_bind (h1 c O cl hcl s m x q hq A F _ _ fun h' t' x' A' e' => ?_)
  exact wpAny_pure (h _ _ x' A' e')
theorem TsC.orF {l r : PySem.Expr} {t : Bool} (h1 : TsC W d sc scope kC l fr G false G₁) (h2 : TsC W d sc scope kC r fr G₁ t G₂) : TsC W d sc scope kC (.BoolOp .Or [l, r] p) fr G t G₂ := by
  intro c O cl hcl s m x q hq A F Q E h
  refine wpAny_isTrue_BoolOp ?_
  show wpAny _ _ (do match BoolOp.Or, ← isTrue l _ (eval l _) with | .And, false => pure false | .Or, true => pure true | _, _ => allTrue .Or [r] _) Q E s
  refine wpAny_bind (h1 c O cl hcl s m x q hq A F _ _ fun h' t' x' A' e' => ?_)
  show wpAny _ _ (do match BoolOp.Or, ← isTrue r _ (eval r _) with | .And, false => pure false | .Or, true => pure true | _, _ => allTrue .Or [] _) Q E _
  refine wpAny_bind (h2 c O cl hcl _ m x' q (e'.at hq) A' (F.mono e') _ _ fun h2' t2 x2 A2 e2 => ?_)
  cases t
  · exact wpAny_pure (h _ _ x2 A2 (e'.trans e2))
  · exact wpAny_pure (h _ _ x2 A2 (e'.trans e2))
theorem TstC.nil : TstC W d sc scope kC [] fr G true G := by
  intro c O cl hcl s m x q hq A F Q E h
  exact wpAny_tests_nil (h s.heap s.toks x A (Ext.refl x))
theorem TstC.one {t : Bool} (h1 : TsC W d sc scope kC e fr G t G₁) : TstC W d sc scope kC [e] fr G t G₁ := by
  intro c O cl hcl s m x q hq A F Q E h
  exact wpAny_tests_one (h1 c O cl hcl s m x q hq A F Q E h)
end
end
section
section
variable {W : Wd} {b : Bool} {d : Nat} {sc scope : Scope} {c : Cx} {m : Str → Option Value} {h h' : Heap} {x : LW} {H H' H₁ : Hp} {fr : Fr2}
theorem At.re_own' {H₂ : Hp} {σ : Nat → Nat} (A : At W c m H h x) (ho : ∀ (j : Nat) (O₂ : MO), H₂[j]? = some O₂ → ∃ O, H[σ j]? = some O ∧ sameKind O O₂) : ∀ a ∈ (x.re H₂ σ).own, a ∈ x.own := by
  intro a ha
  obtain ⟨k, O₂, p, e1, e2, e3⟩ := ownAll_of ha
  obtain ⟨O, f1, f2⟩ := ho k O₂ e1
  have hl : σ k < x.ad.length := by rw [A.ok.len]; exact (List.getElem?_eq_some_iff.mp f1).1
  have hp : x.ad[σ k]? = some (x.ad[σ k]) := List.getElem?_eq_getElem hl
  have h5 := LW.re_at (x := x) (H₂ := H₂) (σ := σ) (List.getElem?_eq_some_iff.mp e1).1 hp
  have e9 : some p = some _ := e2.symm.trans h5
  cases e9
  exact A.owned f1 hp (by rw [ownOf_same f2]; exact e3)
theorem At.other {C : Addr} (A : At W c m H h x) (hs : Heap.SameBut C h h') (hC : C ∉ x.led.map (·.1)) (hL : C ≠ c.L) (h0 : c.h₀.get? C = none) : At W c m H h' x :=
  ⟨A.F.change hs hL h0, fun p hp => ⟨(hs.2 _ fun e => hC (e ▸ List.mem_map_of_mem hp)).trans (A.N p hp).1, (A.N p hp).2⟩, A.ok⟩
theorem At.store {m' : Str → Option Value} (A : At W c m H h x) (hs : Heap.SameBut c.L h h') (hn : h'.Ns c.L m') : At W c m' H h' x := by
  refine ⟨⟨hn, fun b o e => (hs.2 b fun q => ?_).trans (A.F.keep b o e), A.F.above⟩, fun p hp => ⟨(hs.2 _ (A.N p hp).2.1).trans (A.N p hp).1, (A.N p hp).2⟩, A.ok⟩
  have := Heap.lt_size e
  have h2 := A.F.above
  rw [q] at this
  exact Nat.not_lt.mpr h2 this
theorem At.compEnd {acc : List AV} {l : List (Str × AV)} {D C : Addr × Addr} (A : At W c m (H ++ [.list acc, .ns l]) h x) (hD : x.ad[H.length]? = some D) (hC : x.ad[H.length + 1]? = some C) (hb : ∀ (j : Nat) (O : MO), H[j]? = some O → O.bd H.length) (ha : AV.bds H.length acc) :
    ∃ x₂, At W c m H h x₂ ∧ C.1 ∉ x₂.led.map (·.1) ∧ VR W.kp x₂ (.fl acc) (.ref D.1) ∧ ∀ z, Ext z x → z.ad.length = H.length → C.1 ∉ z.led.map (·.1) → Ext z x₂ := by
  have lo : ∀ {j : Nat} {O : MO}, H[j]? = some O → (H ++ [.list acc, .ns l] : Hp)[j]? = some O := fun hj => by rw [List.getElem?_append_left (List.getElem?_eq_some_iff.mp hj).1]; exact hj
  have aD : (H ++ [.list acc, .ns l] : Hp)[H.length]? = some (.list acc) := by rw [List.getElem?_append_right (Nat.le_refl _), Nat.sub_self]; rfl
  have aC : (H ++ [.list acc, .ns l] : Hp)[H.length + 1]? = some (.ns l) := by rw [List.getElem?_append_right (Nat.le_add_right _ _), Nat.add_sub_cancel_left]; rfl
  have ho := A.re_own' (H₂ := H) (σ := fun j => j) fun j O₂ hj => ⟨O₂, lo hj, by cases O₂ <;> trivial⟩
  have hCo : C.1 ∈ x.own := A.owned aC hC (.head _)
  have hDo : D.1 ∈ x.own := A.owned aD hD (.head _)
  have cut : Cut H.length x (x.re H fun j => j) := Cut.re (fun k hk => ⟨hk, rfl⟩) ho
  obtain ⟨A1, _⟩ := A.relay (H₂ := H) (σ := fun j => j) (fun i j _ _ e => e) fun j O₂ hj => ⟨O₂, lo hj, by cases O₂ <;> trivial, fun p r => r.cut cut (hb j O₂ hj) (fun _ _ _ h => h)⟩
  let x₂ : LW := { x.re H (fun j => j) with led := x.led.filter fun q => decide (q.1 ≠ C.1) }
  have mem₁ : ∀ {q : Addr × Obj}, q ∈ x.led → q.1 ≠ C.1 → q ∈ x₂.led := fun hq hn => List.mem_filter.mpr ⟨hq, decide_eq_true hn⟩
  have off₁ : ∀ {q : Addr × Obj}, q ∈ x₂.led → q ∈ x.led ∧ q.1 ≠ C.1 := fun hq => ⟨(List.mem_filter.mp hq).1, of_decide_eq_true (List.mem_filter.mp hq).2⟩
  have cut2 : Cut H.length x x₂ := ⟨cut.ad, fun p hp hn => mem₁ hp fun e => hn (e ▸ hCo), ho⟩
  have hDoff : D.1 ∉ x₂.own := by
    intro ha
    obtain ⟨k, O₂, p, e1, e2, e3⟩ := ownAll_of ha
    have hk := (List.getElem?_eq_some_iff.mp e1).1
    have hl : k < x.ad.length := by rw [A.ok.len, List.length_append]; omega
    have h4 : x.ad[k]? = some x.ad[k] := List.getElem?_eq_getElem hl
    have h5 := LW.re_at (x := x) (H₂ := H) (σ := fun j => j) hk h4
    have e9 : some p = some _ := e2.symm.trans h5
    cases e9
    exact ownAll_apart (A.ok.own ▸ A.ok.nd) (lo e1) h4 aD hD (Nat.ne_of_lt hk) e3 (.head _) rfl
  have hDC : D.1 ≠ C.1 := ownAll_apart (A.ok.own ▸ A.ok.nd) aD hD aC hC (by omega) (.head _) (.head _)
  obtain ⟨its, nn, m1, hv⟩ := A.list aD hD
  refine ⟨x₂, ⟨A.F, fun p hp => A.N p (off₁ hp).1, ⟨(List.filter_sublist.map _).nodup A.ok.keys, A1.ok.own, A1.ok.nd, A1.ok.len, fun k O p hk hp => ?_⟩⟩, ?_, ?_, fun z ez hz hCz => ?_⟩
  · have hl : k < x.ad.length := by rw [A.ok.len, List.length_append]; have := (List.getElem?_eq_some_iff.mp hk).1; omega
    have h4 : x.ad[k]? = some x.ad[k] := List.getElem?_eq_getElem hl
    have h5 := LW.re_at (x := x) (H₂ := H) (σ := fun j => j) (List.getElem?_eq_some_iff.mp hk).1 h4
    have e9 : some p = some _ := hp.symm.trans h5
    cases e9
    exact (A.ok.objs k O _ (lo hk) h4).cut cut2 (hb k O hk) fun a o ha hm => mem₁ hm (ownAll_apart (A.ok.own ▸ A.ok.nd) (lo hk) h4 aC hC (by have := (List.getElem?_eq_some_iff.mp hk).1; omega) ha (.head _))
  · intro q
    obtain ⟨p, hp, e⟩ := List.mem_map.mp q
    exact (off₁ hp).2 e
  · exact .fl (mem₁ m1 hDC) hDoff (hv.cut cut2 ha)
  · refine ⟨?_, fun p hp hn => mem₁ (ez.led p hp hn) fun e => hCz (e ▸ List.mem_map_of_mem hp), fun a ha => ez.own a (ho a ha), fun a ha => ?_⟩
    · have := (Ext.re (H₂ := H) (σ := fun j => j) ez (fun k p hp => ⟨by rw [← hz]; exact (List.getElem?_eq_some_iff.mp hp).1, rfl⟩) ho).ad
      exact this
    · obtain ⟨q, hq, e⟩ := List.mem_map.mp (ez.keys a ha)
      exact List.mem_map.mpr ⟨q, mem₁ hq fun z' => hCz (by rw [← z', e]; exact ha), e⟩
inductive CT (W : Wd) (d : Nat) (sc scope : Scope) (y : Str) (ifs : List PySem.Expr) (elt : PySem.Expr) (fr : Fr2) (n : Nat) (ex : List (Str × AV)) : List AV → List AV → Hp → List AV → Hp → Prop
  | done {acc : List AV} {H : Hp} : CT W d sc scope y ifs elt fr n ex [] acc H acc H
  | skip {v : AV} {rest acc acc' : List AV} {H H₁ H' : Hp} : TstC W d sc scope (n + 1) ifs fr (H ++ [.list acc, .ns ((y, v) :: ex)]) false (H₁ ++ [.list acc, .ns ((y, v) :: ex)]) → H₁.length = n → CT W d sc scope y ifs elt fr n ex rest acc H₁ acc' H' → CT W d sc scope y ifs elt fr n ex (v :: rest) acc H acc' H'
  | take {v r : AV} {rest acc acc' : List AV} {H H₁ H₂ H' : Hp} : TstC W d sc scope (n + 1) ifs fr (H ++ [.list acc, .ns ((y, v) :: ex)]) true (H₁ ++ [.list acc, .ns ((y, v) :: ex)]) → H₁.length = n → EvC W d sc scope (n + 1) elt fr (H₁ ++ [.list acc, .ns ((y, v) :: ex)]) r (H₂ ++ [.list acc, .ns ((y, v) :: ex)]) → H₂.length = n →
      CT W d sc scope y ifs elt fr n ex rest (acc ++ [r]) H₂ acc' H' → CT W d sc scope y ifs elt fr n ex (v :: rest) acc H acc' H'
theorem CT.len {y : Str} {ifs : List PySem.Expr} {elt : PySem.Expr} {n : Nat} {ex : List (Str × AV)} {rest acc acc' : List AV} (w : CT W d sc scope y ifs elt fr n ex rest acc H acc' H') (h : H.length = n) : H'.length = n := by
  induction w with
  | done => exact h
  | skip _ hl _ ih => exact ih hl
  | take _ _ _ hl _ ih => exact ih hl
theorem setC {acc : List AV} {l l' : List (Str × AV)} : ((H ++ [.list acc, .ns l] : Hp).set (H.length + 1) (.ns l')) = H ++ [.list acc, .ns l'] := by
  rw [List.set_append_right _ _ (Nat.le_add_right _ _), Nat.add_sub_cancel_left]; rfl
theorem setD {acc acc' : List AV} {l : List (Str × AV)} : ((H ++ [.list acc, .ns l] : Hp).set H.length (.list acc')) = H ++ [.list acc', .ns l] := by
  rw [List.set_append_right _ _ (Nat.le_refl _), Nat.sub_self]; rfl
theorem atC {acc : List AV} {l : List (Str × AV)} : (H ++ [.list acc, .ns l] : Hp)[H.length + 1]? = some (.ns l) := by rw [List.getElem?_append_right (Nat.le_add_right _ _), Nat.add_sub_cancel_left]; rfl
theorem atD {acc : List AV} {l : List (Str × AV)} : (H ++ [.list acc, .ns l] : Hp)[H.length]? = some (.list acc) := by rw [List.getElem?_append_right (Nat.le_refl _), Nat.sub_self]; rfl
noncomputable def LoopOf (prog : Program) (w : World) (A : Around) (code : Code) (target : PySem.Expr) (ifs : List PySem.Expr) (elt : PySem.Expr) (it acc : Value) (env : Env) : Prop :=
  ∀ (R : Result → Shared → Prop) (s : Shared) (I : Nat → Shared → Prop), (∀ n s, I n s → wpAny (model prog w) A (pyNext it) (fun r s₁ => match r with
      | none => R (.ok .next) s₁
      | some v => wpAny (model prog w) A (assign target env v) (fun _ s₂ =>
          wpAny (model prog w) A (forIn ifs true fun c r => if r = true then do let ok ← isTrue c env (eval c env); pure (ForInStep.yield ok) else pure (ForInStep.yield r)) (fun ok s₃ =>
            if ok = true then wpAny (model prog w) A (eval elt env) (fun x s₄ =>
              wpAny (model prog w) A (call (.builtin "list.append") [acc, x]) (fun _ s₅ => ∃ m, m < n ∧ I m s₅) (notedBy (model prog w) A env fun e s' => R (.error e) s') s₄) (notedBy (model prog w) A env fun e s' => R (.error e) s') s₃
            else ∃ m, m < n ∧ I m s₃) (notedBy (model prog w) A env fun e s' => R (.error e) s') s₂) (notedBy (model prog w) A env fun e s' => R (.error e) s') s₁) (notedBy (model prog w) A env fun e s' => R (.error e) s') s) →
    ∀ n, I n s → codeAny (model prog w) A code R s
theorem loop_one {prog : Program} {w : World} {A : Around} {y : Str} {yp pos : Pos} {iter elt : PySem.Expr} {ifs : List PySem.Expr} {it acc : Value} {env : Env} : LoopOf prog w A (.compLoop (.ListComp elt [⟨.Name y yp, iter, ifs, 0⟩] scope pos) 0 it acc env) (.Name y yp) ifs elt it acc env :=
  fun R s I turn n h => codeAny_compLoop_tests I turn n h
inductive CmpI (W : Wd) (d : Nat) (sc scope : Scope) (y : Str) (ifs : List PySem.Expr) (elt : PySem.Expr) (fr : Fr2) (N : Nat) (ex : List (Str × AV)) (acc' : List AV) (H' : Hp) (a₀ : Nat) (c : Cx) (m : Str → Option Value) (s : Shared) (x : LW) (I : Addr) (G : Nat → Obj → Prop) (items : List AV) : Nat → Shared → Prop
  | mk {i : Nat} {H₀ : Hp} {acc : List AV} {l : List (Str × AV)} {h₀ : Heap} {t₀ : Nat} {x₀ : LW} {o : Obj} {rest : List AV} : ItS x I G items rest i x₀ o → CT W d sc scope y ifs elt fr N ex rest acc H₀ acc' H' → H₀.length = N → acc.length ≤ a₀ + i → (∀ p ∈ ex, p ∈ l) →
    At W c m (H₀ ++ [.list acc, .ns l]) h₀ x₀ → CmpI W d sc scope y ifs elt fr N ex acc' H' a₀ c m s x I G items rest.length { s with heap := h₀, toks := t₀ }
theorem comp_core {code : Code} {ex : List (Str × AV)} {acc₀ : List AV} {s : Shared} {y : Str} {yp : Pos} {elt : PySem.Expr} {ifs : List PySem.Expr} {I : Addr} {G : Nat → Obj → Prop} {items acc' : List AV} {cl : List (Str × Addr)} (O : CxOk W true d sc c) (hex : ∀ p ∈ ex, p.1 ≠ y) (hcl : ClosAt scope sc c cl) (hy : scope.names.lookup y = some .local) (hk : scope.kind = .function)
    (hG : ∀ i o, G i o → fz o = false)
    (item : ∀ (i : Nat) (v : AV), items[i]? = some v → ∀ (s' : Shared) (x' : LW) (o : Obj), ExtS x x' → G i o → (∀ q ∈ x'.led, s'.heap.get? q.1 = some q.2) → s'.heap.get? I = some o → ∀ (Q : Option Value → Shared → Prop) (E : Value → Shared → Prop),
      (∀ h' t u o', Heap.SameBut I s'.heap h' → h'.get? I = some o' → G (i + 1) o' → (∀ x'', ExtS x' x'' → VR W.kp x'' v u) → Q (some u) { s' with heap := h', toks := t }) → wpAny (model W.prog W.w) c.A (pyNext (.ref I)) Q E s')
    (last : ∀ (s' : Shared) (x' : LW) (o : Obj), ExtS x x' → G items.length o → (∀ q ∈ x'.led, s'.heap.get? q.1 = some q.2) → s'.heap.get? I = some o → ∀ (Q : Option Value → Shared → Prop) (E : Value → Shared → Prop),
      (∀ h', Heap.ExtBut I s'.heap h' → Q none { s' with heap := h' }) → wpAny (model W.prog W.w) c.A (pyNext (.ref I)) Q E s')
    {o₀ : Obj} {D C : Addr × Addr} {l₀ : List (Str × AV)} (lp : LoopOf W.prog W.w c.A code (.Name y yp) ifs elt (.ref I) (.ref D.1) (compEnvC scope cl C.1 (c.env sc))) (hl₀ : ∀ p ∈ ex, p ∈ l₀) (A : At W c m (H ++ [.list acc₀, .ns l₀]) s.heap x) (F : FrR W.kp c x fr m) (hm : (I, o₀) ∈ x.led) (hI : I ∉ x.own) (g0 : G 0 o₀) (hD : x.ad[H.length]? = some D) (hC : x.ad[H.length + 1]? = some C)
    (w : CT W d sc scope y ifs elt fr H.length ex items acc₀ H acc' H') (hi : acc₀.length + items.length ≤ 900) {R : Result → Shared → Prop}
    (h : ∀ h' t' x' l, (∀ p ∈ ex, p ∈ l) → At W c m (H' ++ [.list acc', .ns l]) h' x' → x'.ad[H.length]? = some D → x'.ad[H.length + 1]? = some C → (∀ z, Ext z x → I ∉ z.led.map (·.1) → Ext z x') → R (.ok .next) { s with heap := h', toks := t' }) :
    codeAny (model W.prog W.w) c.A code R s := by
  refine lp R s (CmpI W d sc scope y ifs elt fr H.length ex acc' H' acc₀.length c m s x I G items) ?_ items.length (.mk (.zero hm hI g0) w rfl (Nat.le_refl _) hl₀ A)
  intro n s' J
  cases J with
  | mk J w hl0 hacc hel A₀ =>
  rename_i i H₀ acc l h₀ t₀ x₀ o rest
  have hD₀ := J.e.at hD
  have hC₀ := J.e.at hC
  rw [← hl0] at hD₀ hC₀
  cases rest with
  | nil =>
    cases w with
    | done =>
    refine last { s with heap := h₀, toks := t₀ } x₀ o J.e J.fin (fun q hq => A₀.N.get hq) (A₀.N.get J.hm) _ _ fun h' hx => ?_
    obtain ⟨x₁, A₁, _, had, bk⟩ := A₀.drop J.hm (hG _ _ J.g) J.hI hx
    exact h h' t₀ x₁ l hel A₁ (by rw [had, ← hl0]; exact hD₀) (by rw [had, ← hl0]; exact hC₀) fun z ez hz => bk z (J.back z ez hz) hz
  | cons v rest =>
    have hlen := J.len
    rw [List.length_cons] at hlen
    refine item i v J.at { s with heap := h₀, toks := t₀ } x₀ o J.e J.g (fun q hq => A₀.N.get hq) (A₀.N.get J.hm) _ _ fun h1 t u o' hs ho' g' hr => ?_
    obtain ⟨A₁, eS⟩ := A₀.turn J.hm (hG _ _ J.g) J.hI hs ho'
    have hC₁ := eS.at hC₀
    obtain ⟨oC, mC, c1, c2, c3⟩ := A₁.ok.objs _ _ C atC hC₁
    refine wpAny_assign_Name (wpAny_storeName_local (s := { s with heap := h1, toks := t }) (lookup_relabel_local hy) (c2.ns (A₁.N.get c1)) (fun h2 hn2 hs2 => ?_) (by simp [compEnvC, relabel, hk]))
    obtain ⟨o2, g2, n2⟩ := NsO.of hn2
    have exC := LW.put_ext (x := x₀.put I o') (o := o2) (A₁.owned atC hC₁ (.head _))
    have A₂ := A₁.chg (O' := .ns ((y, v) :: ex)) atC hC₁ (.head _) c1 hs2 g2 trivial ⟨o2, _, mem_setAt_self c1, n2, fun y' v' q => by
      rcases List.mem_cons.mp q with q | q
      · cases q
        exact ⟨u, if_pos rfl, (hr _ (eS)).mono exC⟩
      · obtain ⟨u', hu', r'⟩ := c3 y' v' (hel _ q)
        exact ⟨u', (if_neg (hex _ q)).trans hu', r'.mono exC⟩⟩
    rw [setC] at A₂
    have e2 : ExtS x ((x₀.put I o').put C.1 o2) := (J.e.trans eS).trans exC.toS
    have hC2 := exC.at hC₁
    have hD2 := exC.at (eS.at hD₀)
    generalize (x₀.put I o').put C.1 o2 = x₂ at A₂ e2 exC hC2 hD2
    cases w with
    | skip t1 hl1 w =>
      rename_i H₁
      refine t1 c O cl hcl { s with heap := h2, toks := _ } m _ C (by rw [← hl0]; exact hC2) A₂ (F.monoV e2.toV) _ _ fun h3 t3 x3 A3 e3 => ?_
      rw [if_neg (by decide)]
      exact ⟨rest.length, Nat.lt_succ_self _, .mk (J.step eS g' (exC.trans e3)) w hl1 (by omega) (fun p hp => .tail _ hp) A3⟩
    | take t1 hl1 ev hl2 w =>
      rename_i r H₁ H₂
      refine t1 c O cl hcl { s with heap := h2, toks := _ } m _ C (by rw [← hl0]; exact hC2) A₂ (F.monoV e2.toV) _ _ fun h3 t3 x3 A3 e3 => ?_
      rw [if_pos rfl]
      refine ev c O cl hcl { s with heap := h3, toks := t3 } m x3 C (by rw [← hl0]; exact e3.at hC2) A3 (F.monoV (e2.trans e3.toS).toV) _ _ fun u4 h4 t4 x4 A4 e4 r4 => ?_
      have hD4 : x4.ad[H₂.length]? = some D := by rw [hl2, ← hl0]; exact e4.at (e3.at hD2)
      obtain ⟨its, nn, m4, hv4⟩ := A4.list atD hD4
      have hln := hv4.length
      refine append_at (s := { s with heap := h4, toks := t4 }) (its := its.toArray) (n := nn) (A4.N.get m4) (fun h5 hs5 g5 => ?_) (by rw [List.size_toArray, ← hln, sizeLine_eq]; omega)
      have eq5 : ({ cls := .type "list", data := .seq (its.toArray.push u4) (nn + 1) } : Obj) = lstO (its ++ [u4]) (nn + 1) := by
        show _ = ({ cls := .type "list", data := .seq (its ++ [u4]).toArray (nn + 1) } : Obj)
        rw [List.push_toArray]
      rw [eq5] at g5
      have exD := LW.put_ext (x := x4) (o := lstO (its ++ [u4]) (nn + 1)) (A4.owned atD hD4 (.head _))
      have A5 := A4.chg (O' := .list (acc ++ [r])) atD hD4 (.head _) m4 hs5 g5 trivial ⟨_, nn + 1, mem_setAt_self m4, (hv4.mono exD).append (.cons (r4.mono exD) .nil)⟩
      rw [setD] at A5
      exact ⟨rest.length, Nat.lt_succ_self _, .mk (J.step eS g' (exC.trans ((e3.trans e4).trans exD))) w hl2 (by rw [List.length_append, List.length_singleton]; omega) (fun p hp => .tail _ hp) A5⟩
end
end
section
structure ItAt (W : Wd) (c : Cx) (x : LW) (I : Addr) (G : Nat → Obj → Prop) (items : List AV) : Prop where
  fz0 : ∀ i o, G i o → fz o = false
  self : ∀ (i : Nat) (s' : Shared) (x' : LW) (o : Obj), ExtS x x' → G i o → (∀ q ∈ x'.led, s'.heap.get? q.1 = some q.2) → s'.heap.get? I = some o → ∀ (Q : Value → Shared → Prop) (E : Value → Shared → Prop), Q (.ref I) s' → wpAny (model W.prog W.w) c.A (pyIter (.ref I)) Q E s'
  item : ∀ (i : Nat) (v : AV), items[i]? = some v → ∀ (s' : Shared) (x' : LW) (o : Obj), ExtS x x' → G i o → (∀ q ∈ x'.led, s'.heap.get? q.1 = some q.2) → s'.heap.get? I = some o → ∀ (Q : Option Value → Shared → Prop) (E : Value → Shared → Prop),
      (∀ h' t u o', Heap.SameBut I s'.heap h' → h'.get? I = some o' → G (i + 1) o' → (∀ x'', ExtS x' x'' → VR W.kp x'' v u) → Q (some u) { s' with heap := h', toks := t }) → wpAny (model W.prog W.w) c.A (pyNext (.ref I)) Q E s'
  last : ∀ (s' : Shared) (x' : LW) (o : Obj), ExtS x x' → G items.length o → (∀ q ∈ x'.led, s'.heap.get? q.1 = some q.2) → s'.heap.get? I = some o → ∀ (Q : Option Value → Shared → Prop) (E : Value → Shared → Prop),
      (∀ h', Heap.ExtBut I s'.heap h' → Q none { s' with heap := h' }) → wpAny (model W.prog W.w) c.A (pyNext (.ref I)) Q E s'
theorem ItAt.mono {W : Wd} {c : Cx} {x x₂ : LW} {I : Addr} {G : Nat → Obj → Prop} {items : List AV} (e : ExtS x x₂) (i : ItAt W c x I G items) : ItAt W c x₂ I G items :=
  ⟨i.fz0, fun k s' x' o e2 => i.self k s' x' o (e.trans e2), fun k v h s' x' o e2 => i.item k v h s' x' o (e.trans e2), fun s' x' o e2 => i.last s' x' o (e.trans e2)⟩
section
variable {W : Wd} {d : Nat} {sc scope : Scope} {c : Cx} {m : Str → Option Value} {x : LW} {H H' H₁ : Hp} {fr : Fr2}
structure CompSt (scope sc : Scope) (y : Str) : Prop where
  cell : ∀ z ∈ scope.names, z.2 ≠ .cell
  kind : scope.kind = .function
  nm : ∀ z ∈ scope.names, z.2 = .local → scope.names.lookup z.1 = some .local
  loc : scope.names.lookup y = some .local
  cells : cellsOk scope sc = true
theorem comp_block0 {rest : List Comprehension} {s : Shared} {y : Str} {yp : Pos} {iter elt : PySem.Expr} {ifs : List PySem.Expr} {pos : Pos} {I : Addr} {G : Nat → Obj → Prop} {items : List AV} {cl : List (Str × Addr)} {E : Value → Shared → Prop} (O : CxOk W true d sc c) (hcl : ClosAt scope sc c cl) (st : CompSt scope sc y)
    (A : At W c m H s.heap x) (F : FrR W.kp c x fr m) (it : ItAt W c x I G items) {o₀ : Obj} (hm : (I, o₀) ∈ x.led) (hI : I ∉ x.own) (g0 : G 0 o₀) {RR : Value → Addr → Result → Shared → Prop}
    (core : ∀ (D C : Addr) (h' : Heap) (t' : Nat) (x2 : LW), At W c m (H ++ [.list [], .ns []]) h' x2 → x2.ad[H.length]? = some (D, D) → x2.ad[H.length + 1]? = some (C, C) → Ext x x2 → C ∉ x.led.map (·.1) →
      codeAny (model W.prog W.w) c.A (.compLoop (.ListComp elt (⟨.Name y yp, iter, ifs, 0⟩ :: rest) scope pos) 0 (.ref I) (.ref D) (compEnvC scope cl C (c.env sc))) (RR (.ref D) C) { s with heap := h', toks := t' }) :
    wpAny (model W.prog W.w) c.A (newList []) (fun acc s₃ => wpAny (model W.prog W.w) c.A (newFunctionEnv scope (c.env sc).globals cl [] (c.env sc).qual none .none (some (c.env sc))) (fun cenv s₄ =>
      codeAny (model W.prog W.w) c.A (.compStart (.ListComp elt (⟨.Name y yp, iter, ifs, 0⟩ :: rest) scope pos) 0 (.ref I) acc { cenv with scope := relabel scope (c.env sc) }) (RR acc cenv.locals) s₄) E s₃) E s := by
  refine wpAny_newObj_type (wpAny_newFunctionEnv st.cell (by intro y hy; simp at hy) (fun h₁ hns₁ hsb₁ => ?_) st.kind)
  dsimp only at hns₁ hsb₁ ⊢
  have A1 := A.moreL (l := []) (its := []) .nil
  have ex1 := LW.moreL_ext (x := x) (o := lstO [] 0) (fresh_key A)
  have hD1 : (x.moreL s.heap.objs.size (lstO [] 0)).ad[H.length]? = some (s.heap.objs.size, s.heap.objs.size) := by
    show (x.ad ++ [_])[H.length]? = _
    rw [List.getElem?_append_right (by rw [A.ok.len]; exact Nat.le_refl _), A.ok.len, Nat.sub_self]; rfl
  generalize x.moreL s.heap.objs.size (lstO [] 0) = x1 at A1 ex1 hD1
  have hH2 : (s.heap.push { cls := .type "list", dict := none, data := .seq ([] : List Value).toArray } : Heap) = s.heap.push (lstO [] 0) := rfl
  rw [hH2] at hns₁ hsb₁ ⊢
  have hCs : (s.heap.push (lstO [] 0)).objs.size = s.heap.objs.size + 1 := Heap.size_push ..
  generalize hH3 : s.heap.push (lstO [] 0) = H3 at A1 hns₁ hsb₁ hCs ⊢
  obtain ⟨o1, g1, n1⟩ := NsO.of hns₁
  have old : ∀ b o, H3.get? b = some o → h₁.get? b = some o := fun b o e => hsb₁.extBut b o (Nat.ne_of_lt (Heap.lt_size e)) (Heap.get?_push_of_some _ e)
  have fk := fresh_key A1
  have hn : ∀ a ∈ [((H3.objs.size : Addr), o1)].map (·.1), a ∉ x1.led.map (·.1) := fun a ha => by
    cases ha with
    | head => exact fk
    | tail _ h => cases h
  have ho : ∀ a ∈ ownOf (H3.objs.size, H3.objs.size) (.ns []), a ∈ [((H3.objs.size : Addr), o1)].map (·.1) := fun a ha => ha
  have A2 : At W c m (H ++ [.list []] ++ [.ns []]) h₁ (x1.grow [((H3.objs.size : Addr), o1)] (H3.objs.size, H3.objs.size) (.ns [])) := by
    refine A1.grow (A1.F.keeps old) (fun p hp => ?_) hn (by simp) ho (by simp [ownOf]) ⟨o1, _, .head _, n1, fun y v q => nomatch q⟩
    rcases List.mem_cons.mp hp with rfl | hp
    · exact ⟨g1, Ne.symm (Nat.ne_of_lt A1.F.ns.lt), next_is_new A1.F⟩
    · exact ⟨old _ _ (A1.N p hp).1, (A1.N p hp).2⟩
  have ex2 := LW.grow_ext (x := x1) (q := (H3.objs.size, H3.objs.size)) (O := .ns []) hn ho
  have hC2 := LW.grow_at (ps := [((H3.objs.size : Addr), o1)]) (q := (H3.objs.size, H3.objs.size)) (O := .ns []) A1.ok
  generalize x1.grow [((H3.objs.size : Addr), o1)] (H3.objs.size, H3.objs.size) (.ns []) = x2 at A2 ex2 hC2
  have hl : (H ++ [MO.list []]).length = H.length + 1 := by rw [List.length_append]; rfl
  rw [hl] at hC2
  have hD2 := ex2.at hD1
  rw [List.append_assoc] at A2
  have e12 := ex1.trans ex2
  have hCx : (H3.objs.size : Addr) ∉ x.led.map (·.1) := fun q => fk (ex1.keys _ q)
  have hm2 := e12.led _ hm hI
  have hI2 := e12.off hm hI
  have loop : ∀ s₃ : Shared, s₃ = { s with heap := h₁, toks := s.toks + ([] : List (Str × Value)).length } →
      codeAny (model W.prog W.w) c.A (.compLoop (.ListComp elt (⟨.Name y yp, iter, ifs, 0⟩ :: rest) scope pos) 0 (.ref I) (.ref s.heap.objs.size) (compEnvC scope cl H3.objs.size (c.env sc))) (RR (.ref s.heap.objs.size) H3.objs.size) s₃ := by
    rintro s₃ rfl
    exact core s.heap.objs.size H3.objs.size h₁ _ x2 A2 hD2 hC2 e12 hCx
  refine codeAny_compStart_list (loop _ rfl) ?_
  exact it.self 0 _ x2 _ e12.toS g0 (fun q hq => A2.N.get hq) (A2.N.get hm2) _ _ (loop _ rfl)
theorem comp_block {s : Shared} {y : Str} {yp : Pos} {iter elt : PySem.Expr} {ifs : List PySem.Expr} {pos : Pos} {I : Addr} {G : Nat → Obj → Prop} {items acc' : List AV} {cl : List (Str × Addr)} {E : Value → Shared → Prop} (O : CxOk W true d sc c) (hcl : ClosAt scope sc c cl) (st : CompSt scope sc y)
    (A : At W c m H s.heap x) (F : FrR W.kp c x fr m) (it : ItAt W c x I G items) {o₀ : Obj} (hm : (I, o₀) ∈ x.led) (hI : I ∉ x.own) (g0 : G 0 o₀) (w : CT W d sc scope y ifs elt fr H.length [] items [] H acc' H') (hi : items.length ≤ 900) {RR : Value → Addr → Result → Shared → Prop}
    (hRR : ∀ (D C : Addr) h' t' x' l, At W c m (H' ++ [.list acc', .ns l]) h' x' → x'.ad[H.length]? = some (D, D) → x'.ad[H.length + 1]? = some (C, C) → (∀ z, Ext z x → I ∉ z.led.map (·.1) → Ext z x') → C ∉ x.led.map (·.1) → RR (.ref D) C (.ok .next) { s with heap := h', toks := t' }) :
    wpAny (model W.prog W.w) c.A (newList []) (fun acc s₃ => wpAny (model W.prog W.w) c.A (newFunctionEnv scope (c.env sc).globals cl [] (c.env sc).qual none .none (some (c.env sc))) (fun cenv s₄ =>
      codeAny (model W.prog W.w) c.A (.compStart (.ListComp elt [⟨.Name y yp, iter, ifs, 0⟩] scope pos) 0 (.ref I) acc { cenv with scope := relabel scope (c.env sc) }) (RR acc cenv.locals) s₄) E s₃) E s := by
  refine comp_block0 (items := items) O hcl st A F it hm hI g0 fun D C h' t' x2 A2 hD2 hC2 e12 hCx => ?_
  have it2 := it.mono e12.toS
  exact comp_core (ex := []) (s := { s with heap := h', toks := t' }) (D := (D, D)) (C := (C, C)) O (by intro p hp; cases hp) hcl st.loc st.kind it2.fz0 it2.item it2.last loop_one (by intro p hp; cases hp) A2 (F.mono e12) (e12.led _ hm hI) (e12.off hm hI) g0 hD2 hC2 w (by simpa using hi)
    fun h' t' x' l _ A' hD' hC' back => hRR _ _ h' t' x' l A' hD' hC' (fun z ez hz => back z (ez.trans e12) hz) hCx
noncomputable def Src (W : Wd) (d : Nat) (sc : Scope) (iter : PySem.Expr) (fr : Fr2) (H : Hp) (items : List AV) (H₁ : Hp) : Prop :=
  ∀ (c : Cx), CxOk W true d sc c → ∀ (s : Shared) (m : Str → Option Value) (x : LW), At W c m H s.heap x → FrR W.kp c x fr m → ∀ (K : Value → Shared → Prop) (E : Value → Shared → Prop),
    (∀ I h' t' x1 x2 o₀ G, At W c m H₁ h' x2 → Ext x x1 → Ext x1 x2 → x1.ad.length = H₁.length → I ∉ x1.led.map (·.1) → (I, o₀) ∈ x2.led → I ∉ x2.own → G 0 o₀ → ItAt W c x2 I G items → K (.ref I) { s with heap := h', toks := t' }) →
    wpAny (model W.prog W.w) c.A (eval iter (c.env sc)) (fun xv s₁ => wpAny (model W.prog W.w) c.A (pyIter xv) K E s₁) E s
theorem Src.list {iter : PySem.Expr} {l : List AV} (h1 : Ev W true d sc iter fr H (.fl l) H₁) : Src W d sc iter fr H l H₁ := by
  intro c O s m x A F K E h
  refine h1 c O s m x A F _ E fun u h' t' x' A' e' r' => ?_
  obtain ⟨_, _, _, m1, m2, hv, rfl⟩ := VR.f r'
  rename_i its a n
  refine wpAny_pyIter_list (s := { s with heap := h', toks := t' }) ⟨_, A'.N.get m1, rfl, _, rfl⟩ ?_
  have fk := fresh_key A'
  have ex := LW.more_ext (x := x') (o := { cls := .type "list_iterator", data := .fields #[.ref a, .int 0 0] }) fk
  refine h _ _ _ x' _ _ (fun i o => o.cls = .type "list_iterator" ∧ o.data = .fields #[.ref a, .int (i : Nat) 0]) (A'.more rfl) e' ex A'.ok.len fk (.head _) (LW.more_off A'.ok fk) ⟨rfl, rfl⟩ ⟨?_, ?_, ?_, ?_⟩
  · rintro i o ⟨hc, hd⟩
    unfold fz
    rw [hc, hd]
    rfl
  · rintro i s' x'' o eS ⟨hc, hd⟩ hled ho Q E k
    exact wpAny_pyIter_listiter ⟨o, ho, hc, hd⟩ k
  · rintro i v hi s' x'' o eS ⟨hc, hd⟩ hled ho Q E k
    obtain ⟨u, hu, ru⟩ := ((hv.mono ex).monoS eS).get hi
    have m3 := eS.led _ (List.mem_cons_of_mem _ m1) (LW.more_ext fk |>.off m1 m2) rfl
    refine wpAny_pyNext_list_item (x := u) (items := its.toArray) ⟨o, ho, hc, hd⟩ ⟨_, hled _ m3, rfl, _, rfl⟩ (by simpa using hu) fun h3 hit hsb => ?_
    obtain ⟨o', ho', hc', hd'⟩ := hit
    exact k h3 s'.toks u o' hsb ho' ⟨hc', hd'⟩ fun x3 e3 => ru.monoS e3
  · rintro s' x'' o eS ⟨hc, hd⟩ hled ho Q E k
    have m3 := eS.led _ (List.mem_cons_of_mem _ m1) (LW.more_ext fk |>.off m1 m2) rfl
    refine wpAny_pyNext_list_end (items := its.toArray) (O.hh rfl) ⟨o, ho, hc, hd⟩ ⟨_, hled _ m3, rfl, _, rfl⟩ ?_ k
    rw [hv.length]
    simp
theorem src_core {s : Shared} {a bb : Int} {n : Nat} {r : Addr} {t u v : Tok} {K : Value → Shared → Prop} {E : Value → Shared → Prop} (O : CxOk W true d sc c) (A : At W c m H s.heap x) (hr : IsRange s.heap r a bb 1 t u v) (ha : -100000 ≤ a) (ha' : a ≤ 100000) (hb : -100000 ≤ bb) (hb' : bb ≤ 100000) (hn : n = (bb - a).toNat)
    (h : ∀ I h' t' x2 o₀ G, At W c m H h' x2 → Ext x x2 → I ∉ x.led.map (·.1) → (I, o₀) ∈ x2.led → I ∉ x2.own → G 0 o₀ → ItAt W c x2 I G (rangeV a n) → K (.ref I) { s with heap := h', toks := t' }) :
    wpAny (model W.prog W.w) c.A (pyIter (.ref r)) K E s := by
  refine wpAny_pyIter_range hr (small_of ha ha' hb hb') ?_
  have fk := fresh_key A
  have hsz : Builtin.Range.rangeSize a bb 1 = (n : Int) := by rw [rangeSize_one, hn]; split <;> omega
  rw [hsz]
  have ex := LW.more_ext (x := x) (o := { cls := .type "range_iterator", data := .fields #[rawInt a, rawInt n, rawInt 1] }) fk
  refine h _ _ s.toks _ _ (fun i o => o = { cls := .type "range_iterator", dict := none, data := .fields #[rawInt (a + (i : Nat)), rawInt ((n : Int) - (i : Nat)), rawInt 1], slots := #[] }) (A.more rfl) ex fk (.head _) (LW.more_off A.ok fk) (by simp) ⟨?_, ?_, ?_, ?_⟩
  · rintro i o rfl
    rfl
  · rintro i s' x'' o eS rfl hled ho Q E k
    exact wpAny_pyIter_rangeiter ho k
  · rintro i v hi s' x'' o eS rfl hled ho Q E k
    obtain ⟨hi, rfl⟩ := rangeV_get hi
    refine wpAny_pyNext_range_item ho (by omega) fun h3 hit hsb => ?_
    refine k h3 (s'.toks + 1) _ _ hsb hit ?_ fun x3 e3 => .int _ _
    have e1 : a + (i : Int) + 1 = a + ((i + 1 : Nat) : Int) := by omega
    have e2 : (n : Int) - (i : Int) - 1 = (n : Int) - ((i + 1 : Nat) : Int) := by omega
    rw [e1, e2]
  · rintro s' x'' o eS rfl hled ho Q E k
    refine wpAny_pyNext_range_end (O.hh rfl) ho ?_ k
    have : (rangeV a n).length = n := by unfold rangeV; simp
    rw [this]
    omega
theorem Src.range {f : Str} {np cp : Pos} {e : PySem.Expr} {bb : Int} {n : Nat} (h0 : Ev W true d sc (.Name f np) fr H (.val (.type "range")) H) (h1 : Ev W true d sc e fr H (.int bb) H₁) (hn : n = bb.toNat) (hb : -100000 ≤ bb) (hb' : bb ≤ 100000) (hst : ∀ env, starEach [e] env = [(false, eval e env)]) :
    Src W d sc (.Call (.Name f np) [e] [] cp) fr H (rangeV 0 n) H₁ := by
  intro c O s m x A F K E h
  refine wpAny_Call_ofName (h0 c O s m x A F _ _ fun u h' t' x' A' e' r' => ?_)
  first | obtain rfl := VR.v r' | obtain ⟨_, rfl⟩ := VR.i r' | obtain rfl := VR.t r' | obtain rfl := VR.n r' | obtain ⟨_, rfl⟩ := VR.s r' | cases r'
  refine callWith_of (P := fun _ => True) (by rw [hst]; rfl) (fun _ _ => ⟨_, .inr (.inl rfl), looks_type⟩) ?_
  rw [hst]
  refine evalArgs_plain (Calls.spliced_cons ?_)
  refine h1 c O _ m x' A' (F.mono e') _ _ fun u2 h2' t2 x2 A2 e2 r2 => ?_
  refine Calls.spliced_nil ⟨trivial, ?_⟩
  first | obtain rfl := VR.v r2 | obtain ⟨_, rfl⟩ := VR.i r2 | obtain rfl := VR.t r2 | obtain rfl := VR.n r2 | obtain ⟨_, rfl⟩ := VR.s r2 | cases r2
  refine call_range_1 ?_
  have fk := fresh_key A2
  refine src_core (n := n) (H := H₁) (x := x2.more _ _) O (A2.more rfl) (IsRange.new ..) (by decide) (by decide) hb hb' (by omega) fun I h3 t3 x3 o₀ G A3 e3 hI hm hIo g0 it => ?_
  exact h I h3 t3 _ x3 o₀ G A3 ((e'.trans e2).trans (LW.more_ext fk)) e3 A2.ok.len hI hm hIo g0 it
theorem Ev.comp {y : Str} {yp pos : Pos} {iter elt : PySem.Expr} {ifs : List PySem.Expr} {items acc' : List AV} (hsrc : Src W d sc iter fr H items H₁) (w : CT W d sc scope y ifs elt fr H₁.length [] items [] H₁ acc' H') (hi : items.length ≤ 900) (st : CompSt scope sc y)
    (hb : (∀ (j : Nat) (O : MO), H₁[j]? = some O → O.bd H₁.length) → ∀ (j : Nat) (O : MO), H'[j]? = some O → O.bd H'.length) (ha : AV.bds H'.length acc') (hs : ∀ env x, foldedSetIterable iter env x = pure x) :
    Ev W true d sc (.ListComp elt [⟨.Name y yp, iter, ifs, 0⟩] scope pos) fr H (.fl acc') H' := by
  intro c O s m x A F Q E h
  obtain ⟨cl, hclos, hcl⟩ := clos_ok O st.cells
  rw [eval_ListComp]
  refine wpAny_comprehension_free (use := Option.none) rfl (hs _) hclos st.kind st.nm ?_
  refine hsrc c O s m x A F _ E fun I h' t' x1 x2 o₀ G A2 e1 e2 hl1 hI1 hm hI g0 it => ?_
  refine comp_block (s := { s with heap := h', toks := t' }) (RR := fun acc C => compPost (model W.prog W.w) c.A E Option.none Q acc C) O hcl st A2 (F.mono (e1.trans e2)) it hm hI g0 w hi ?_
  intro D C h3 t3 x3 l A3 hD hC back hCn
  have hl := w.len rfl
  rw [← hl] at hD hC
  obtain ⟨o, mm, m1, hn, hv⟩ := A3.ok.objs _ _ (C, C) atC hC
  refine ⟨mm, hn.ns (A3.N.get m1), fun h4 hs4 => ?_⟩
  obtain ⟨x4, A4, hC4, r4, e4⟩ := A3.compEnd hD hC (hb fun j O hj => A2.ok.bd hj) ha
  have n3 := A3.N _ m1
  have A5 := A4.other hs4 hC4 n3.2.1 n3.2.2
  exact h (.ref D) h4 t3 x4 A5 (e1.trans (e4 x1 (back x1 e2 hI1) (by rw [hl, hl1]) fun q => hCn (e2.keys _ q))) r4
theorem Ex.comp {y z : Str} {yp zp pos spos : Pos} {iter elt : PySem.Expr} {ifs : List PySem.Expr} {items acc' : List AV} {ns : List Str} {vs vs' : List (Option AV)} (hsrc : Src W d sc iter (ns, vs) H items H₁) (w : CT W d sc scope y ifs elt (ns, vs) H₁.length [] items [] H₁ acc' H') (hi : items.length ≤ 900) (st : CompSt scope sc y)
    (hb : (∀ (j : Nat) (O : MO), H₁[j]? = some O → O.bd H₁.length) → ∀ (j : Nat) (O : MO), H'[j]? = some O → O.bd H'.length) (ha : AV.bds H'.length acc') (hs : ∀ env x, foldedSetIterable iter env x = pure x) (put : Put ns vs z (.fl acc') vs') (hz : sc.names.lookup z = some .local)
    (hsw : ∀ c : Cx, swapsWith (.ListComp elt [⟨.Name y yp, iter, ifs, 0⟩] scope pos) (some (.Name z zp)) spos.line (c.env sc) = pure true) :
    Ex W true d sc (.Assign [.Name z zp] (.ListComp elt [⟨.Name y yp, iter, ifs, 0⟩] scope pos) spos) (ns, vs) H .next (ns, vs') H' := by
  intro c O s m x A F Q E h
  obtain ⟨cl, hclos, hcl⟩ := clos_ok O st.cells
  rw [exec_Assign_Name_used _ _ _ _ (hsw c)]
  refine wpAny_bind (wpAny_standAt (wpAny_bind ?_))
  show wpAny _ c.A (do let _ ← comprehension (.ListComp elt [⟨.Name y yp, iter, ifs, 0⟩] scope pos) scope (c.env sc) _ (newList []) false (eval iter (c.env sc)) (some (PySem.assign (.Name z zp) (c.env sc)))) _ _ s
  refine wpAny_bind (wpAny_mono (wpAny_comprehension_free (use := some (PySem.assign (.Name z zp) (c.env sc))) (Q := fun _ s' => Q .next s') rfl (hs _) hclos st.kind st.nm ?_) (fun _ s' hq => wpAny_pure (wpAny_pure hq)) fun _ _ e => e)
  refine hsrc c O s m x A F _ E fun I h' t' x1 x2 o₀ G A2 e1 e2 hl1 hI1 hm hI g0 it => ?_
  refine comp_block (s := { s with heap := h', toks := t' }) (RR := fun acc C => compPost (model W.prog W.w) c.A E (some (PySem.assign (.Name z zp) (c.env sc))) (fun _ s' => Q .next s') acc C) O hcl st A2 (F.mono (e1.trans e2)) it hm hI g0 w hi ?_
  intro D C h3 t3 x3 l A3 hD hC back hCn
  have hl := w.len rfl
  rw [← hl] at hD hC
  obtain ⟨o, mm, m1, hn, hv⟩ := A3.ok.objs _ _ (C, C) atC hC
  obtain ⟨x4, A4, hC4, r4, e4⟩ := A3.compEnd hD hC (hb fun j O hj => A2.ok.bd hj) ha
  have n3 := A3.N _ m1
  have e5 : Ext x x4 := e1.trans (e4 x1 (back x1 e2 hI1) (by rw [hl, hl1]) fun q => hCn (e2.keys _ q))
  show wpAny _ c.A (PySem.assign (.Name z zp) (c.env sc) (.ref D)) _ _ _
  refine wpAny_assign_Name (wpAny_storeName_local (s := { s with heap := h3, toks := t3 }) hz A4.F.ns (fun h4 hn4 hs4 => ?_) (by rw [show (c.env sc).scope.kind = sc.kind from rfl, O.hk]; rfl))
  have A5 := A4.store hs4 hn4
  refine ⟨mm, (hn.ns (A3.N.get m1)).sameBut hs4 n3.2.1, fun h6 hs6 => ?_⟩
  have A6 := A5.other hs6 hC4 n3.2.1 n3.2.2
  exact h .next _ h6 _ x4 A6 ((F.mono e5).put put r4 (O.nl hz)) e5 trivial
end
end
section
theorem turn_in (elt t1 i1 target iter : PySem.Expr) (ifs : List PySem.Expr) (scope : Scope) (pos : Pos) (it acc : Value) (env : Env) :
    compTurn (.ListComp elt [⟨t1, i1, [], 0⟩, ⟨target, iter, ifs, 0⟩] scope pos) 1 it acc env = (do
      standAt iter.pos
      match ← pyNext it with
      | none => pure (.done .next)
      | some v =>
        letOwnedTupleGo target it v
        assign target env v
        let mut ok := true
        for c in ifs do
          if ok then ok ← isTrue c env (eval c env)
        if ok then
          (do let _ ← call (.builtin "list.append") [acc, ← eval elt env])
        again (.compLoop (.ListComp elt [⟨t1, i1, [], 0⟩, ⟨target, iter, ifs, 0⟩] scope pos) 1 it acc env)) := by rfl
theorem turn_out (elt target iter t2 i2 : PySem.Expr) (ifs : List PySem.Expr) (scope : Scope) (pos : Pos) (it acc : Value) (env : Env) :
    compTurn (.ListComp elt [⟨target, iter, [], 0⟩, ⟨t2, i2, ifs, 0⟩] scope pos) 0 it acc env = (do
      standAt iter.pos
      match ← pyNext it with
      | none => pure (.done .next)
      | some v =>
        letOwnedTupleGo target it v
        assign target env v
        let mut ok := true
        for c in ([] : List PySem.Expr) do
          if ok then ok ← isTrue c env (eval c env)
        if ok then
          let x ← eval i2 env
          standAt i2.pos
          let x ← foldedSetIterable i2 env x
          let _ ← runOwn (.compStart (.ListComp elt [⟨target, iter, [], 0⟩, ⟨t2, i2, ifs, 0⟩] scope pos) 1 (← holding [x] (pyIter x)) acc env) env
        again (.compLoop (.ListComp elt [⟨target, iter, [], 0⟩, ⟨t2, i2, ifs, 0⟩] scope pos) 0 it acc env)) := by rfl
section
variable {prog : Program} {w : World} {A : Around} {R : Result → Shared → Prop} {s : Shared} {E : Value → Shared → Prop}
theorem loop_in {elt t1 i1 iter : PySem.Expr} {y : Str} {yp pos : Pos} {ifs : List PySem.Expr} {scope : Scope} {it acc : Value} {env : Env} :
    LoopOf prog w A (.compLoop (.ListComp elt [⟨t1, i1, [], 0⟩, ⟨.Name y yp, iter, ifs, 0⟩] scope pos) 1 it acc env) (.Name y yp) ifs elt it acc env := by
  intro R s I turn n h
  refine codeAny_loop rfl I (fun n s hI => ?_) n h
  show wpAny _ A ((compTurn (.ListComp elt [⟨t1, i1, [], 0⟩, ⟨.Name y yp, iter, ifs, 0⟩] scope pos) 1 it acc env).onRaise (fun x => do noteFrame x env; theTreesLotGoes x)) _ _ s
  refine wpAny_noted ?_
  rw [turn_in]
  refine wpAny_bind (wpAny_standAt (wpAny_bind (wpAny_mono (turn n s hI) (fun r s₁ h₁ => ?_) fun _ _ h' => h')))
  cases r with
  | none => exact wpAny_pure h₁
  | some v =>
    refine wpAny_bind (wpAny_of_eq (by rfl) ?_)
    refine wpAny_bind (wpAny_mono h₁ (fun _ s₂ h₂ => wpAny_bind (wpAny_mono h₂ (fun ok s₃ h₃ => ?_) fun _ _ h' => h')) fun _ _ h' => h')
    cases ok with
    | false => exact wpAny_pure ⟨rfl, h₃⟩
    | true =>
      exact wpAny_bind (wpAny_bind (wpAny_mono h₃ (fun x s₄ h₄ => wpAny_bind (wpAny_mono h₄ (fun _ s₅ h₅ => wpAny_pure (wpAny_pure ⟨rfl, h₅⟩)) fun _ _ h' => h')) fun _ _ h' => h'))
theorem loop_out {elt iter t2 i2 : PySem.Expr} {y : Str} {yp pos : Pos} {ifs : List PySem.Expr} {scope : Scope} {it acc : Value} {env : Env} (hs : ∀ x, foldedSetIterable i2 env x = pure x) (I : Nat → Shared → Prop)
    (turn : ∀ n s, I n s → wpAny (model prog w) A (pyNext it) (fun r s₁ => match r with
      | none => R (.ok .next) s₁
      | some v => wpAny (model prog w) A (assign (.Name y yp) env v) (fun _ s₂ =>
          wpAny (model prog w) A (eval i2 env) (fun x s₃ => wpAny (model prog w) A (pyIter x) (fun it2 s₄ =>
            codeAny (model prog w) A (.compStart (.ListComp elt [⟨.Name y yp, iter, [], 0⟩, ⟨t2, i2, ifs, 0⟩] scope pos) 1 it2 acc env) (fun r s' => match r with | .ok f => ∃ m, m < n ∧ I m s' | .error e => cameBackBy (model prog w) A env (notedBy (model prog w) A env fun e s' => R (.error e) s') e s') s₄)
            (notedBy (model prog w) A env fun e s' => R (.error e) s') s₃) (notedBy (model prog w) A env fun e s' => R (.error e) s') s₂) (notedBy (model prog w) A env fun e s' => R (.error e) s') s₁) (notedBy (model prog w) A env fun e s' => R (.error e) s') s)
    (n : Nat) (h : I n s) : codeAny (model prog w) A (.compLoop (.ListComp elt [⟨.Name y yp, iter, [], 0⟩, ⟨t2, i2, ifs, 0⟩] scope pos) 0 it acc env) R s := by
  refine codeAny_loop rfl I (fun n s hI => ?_) n h
  show wpAny _ A ((compTurn (.ListComp elt [⟨.Name y yp, iter, [], 0⟩, ⟨t2, i2, ifs, 0⟩] scope pos) 0 it acc env).onRaise (fun x => do noteFrame x env; theTreesLotGoes x)) _ _ s
  refine wpAny_noted ?_
  rw [turn_out]
  refine wpAny_bind (wpAny_standAt (wpAny_bind (wpAny_mono (turn n s hI) (fun r s₁ h₁ => ?_) fun _ _ h' => h')))
  cases r with
  | none => exact wpAny_pure h₁
  | some v =>
    refine wpAny_bind (wpAny_of_eq (by rfl) ?_)
    refine wpAny_bind (wpAny_mono h₁ (fun _ s₂ h₂ => ?_) fun _ _ h' => h')
    refine wpAny_bind (wpAny_tests_nil ?_)
    rw [if_pos rfl]
    refine wpAny_bind (wpAny_mono h₂ (fun x s₃ h₃ => ?_) fun _ _ h' => h')
    refine wpAny_bind (wpAny_standAt (wpAny_bind (wpAny_of_eq (hs x) ?_)))
    refine wpAny_bind (wpAny_holding (wpAny_mono h₃ (fun it2 s₄ h₄ => ?_) fun _ _ h' => h'))
    refine wpAny_bind (wpAny_runOwn ?_)
    rw [Around.mark_none]
    refine codeAny_mono h₄ fun r s' hr => ?_
    cases r with
    | ok f => exact wpAny_pure ⟨rfl, hr⟩
    | error e => exact hr
theorem start_in {elt t1 i1 target iter ifs scope pos it acc env}
    (h0 : codeAny (model prog w) A (.compLoop (.ListComp elt [⟨t1, i1, [], 0⟩, ⟨target, iter, ifs, 0⟩] scope pos) 1 it acc env) R s)
    (h : wpAny (model prog w) A (pyIter it) (fun it' s' => codeAny (model prog w) A (.compLoop (.ListComp elt [⟨t1, i1, [], 0⟩, ⟨target, iter, ifs, 0⟩] scope pos) 1 it' acc env) R s')
      (notedBy (model prog w) A env fun x s' => R (.error x) s') s) :
    codeAny (model prog w) A (.compStart (.ListComp elt [⟨t1, i1, [], 0⟩, ⟨target, iter, ifs, 0⟩] scope pos) 1 it acc env) R s := by
  refine codeAny_of_tree ?_
  show wpAny _ _ ((compStart (.ListComp elt [⟨t1, i1, [], 0⟩, ⟨target, iter, ifs, 0⟩] scope pos) 1 it acc env).onRaise (fun x => do noteFrame x env; standAt theWindowsPlace)) _ _ s
  refine wpAny_notedAt ?_
  unfold compStart
  show wpAny _ _ (ask >>= _) _ _ s
  refine wpAny_bind (wpAny_askSetting (wpAny_ite ?_))
  split
  · first
      | exact wpAny_bind (wpAny_pure (wpAny_pure (And.intro rfl h0)))
      | exact wpAny_pure (And.intro rfl h0)
  · first
      | exact wpAny_bind (wpAny_rule (wpAny_bind (wpAny_standAt (wpAny_bind (wpAny_mono h (fun it' s' h' => wpAny_pure (And.intro rfl h')) fun _ _ x => x)))))
      | (refine wpAny_bind (wpAny_rule ?_); show wpAny _ _ (standAt iter.pos >>= _) _ _ s; exact wpAny_bind (wpAny_standAt (wpAny_bind (wpAny_mono h (fun it' s' h' => wpAny_pure (And.intro rfl h')) fun _ _ x => x))))
end
end
section
section
variable {W : Wd} {d : Nat} {sc scope : Scope} {c : Cx} {m : Str → Option Value} {x : LW} {H H' H₁ : Hp} {fr : Fr2}
inductive CT2 (W : Wd) (d : Nat) (sc scope : Scope) (y z : Str) (i2 : PySem.Expr) (ifs : List PySem.Expr) (elt : PySem.Expr) (fr : Fr2) (n : Nat) : List AV → List AV → Hp → List AV → Hp → Prop
  | done {acc : List AV} {H : Hp} : CT2 W d sc scope y z i2 ifs elt fr n [] acc H acc H
  | turn {v : AV} {rest items2 acc acc₁ acc' : List AV} {H H₁ H' : Hp} : (∀ G, G[n + 1]? = some (.ns [(y, v)]) → EvC W d sc scope (n + 1) i2 fr G (.fl items2) G) → CT W d sc scope z ifs elt fr n [(y, v)] items2 acc H acc₁ H₁ → acc.length + items2.length ≤ 900 →
      CT2 W d sc scope y z i2 ifs elt fr n rest acc₁ H₁ acc' H' → CT2 W d sc scope y z i2 ifs elt fr n (v :: rest) acc H acc' H'
theorem CT2.len {y z : Str} {i2 : PySem.Expr} {ifs : List PySem.Expr} {elt : PySem.Expr} {n : Nat} {rest acc acc' : List AV} (w : CT2 W d sc scope y z i2 ifs elt fr n rest acc H acc' H') (h : H.length = n) : H'.length = n := by
  induction w with
  | done => exact h
  | turn _ w _ _ ih => exact ih (w.len h)
inductive CmpJ (W : Wd) (d : Nat) (sc scope : Scope) (y z : Str) (i2 : PySem.Expr) (ifs : List PySem.Expr) (elt : PySem.Expr) (fr : Fr2) (N : Nat) (acc' : List AV) (H' : Hp) (c : Cx) (m : Str → Option Value) (s : Shared) (x : LW) (I : Addr) (G : Nat → Obj → Prop) (items : List AV) : Nat → Shared → Prop
  | mk {i : Nat} {H₀ : Hp} {acc : List AV} {l : List (Str × AV)} {h₀ : Heap} {t₀ : Nat} {x₀ : LW} {o : Obj} {rest : List AV} : ItS x I G items rest i x₀ o → CT2 W d sc scope y z i2 ifs elt fr N rest acc H₀ acc' H' → H₀.length = N →
    At W c m (H₀ ++ [.list acc, .ns l]) h₀ x₀ → CmpJ W d sc scope y z i2 ifs elt fr N acc' H' c m s x I G items rest.length { s with heap := h₀, toks := t₀ }
theorem comp_core2 {s : Shared} {y z : Str} {yp zp pos : Pos} {iter i2 elt : PySem.Expr} {ifs : List PySem.Expr} {I : Addr} {G : Nat → Obj → Prop} {items acc' : List AV} {cl : List (Str × Addr)} (O : CxOk W true d sc c) (hyz : y ≠ z) (hcl : ClosAt scope sc c cl) (hy : scope.names.lookup y = some .local) (hz : scope.names.lookup z = some .local) (hk : scope.kind = .function)
    (hs2 : ∀ env x, foldedSetIterable i2 env x = pure x) (it : ItAt W c x I G items)
    {o₀ : Obj} {D C : Addr × Addr} {l₀ : List (Str × AV)} {acc₀ : List AV} (A : At W c m (H ++ [.list acc₀, .ns l₀]) s.heap x) (F : FrR W.kp c x fr m) (hm : (I, o₀) ∈ x.led) (hI : I ∉ x.own) (g0 : G 0 o₀) (hD : x.ad[H.length]? = some D) (hC : x.ad[H.length + 1]? = some C)
    (w : CT2 W d sc scope y z i2 ifs elt fr H.length items acc₀ H acc' H') {R : Result → Shared → Prop}
    (h : ∀ h' t' x' l, At W c m (H' ++ [.list acc', .ns l]) h' x' → x'.ad[H.length]? = some D → x'.ad[H.length + 1]? = some C → (∀ z, Ext z x → I ∉ z.led.map (·.1) → Ext z x') → R (.ok .next) { s with heap := h', toks := t' }) :
    codeAny (model W.prog W.w) c.A (.compLoop (.ListComp elt [⟨.Name y yp, iter, [], 0⟩, ⟨.Name z zp, i2, ifs, 0⟩] scope pos) 0 (.ref I) (.ref D.1) (compEnvC scope cl C.1 (c.env sc))) R s := by
  refine loop_out (fun x => hs2 _ x) (CmpJ W d sc scope y z i2 ifs elt fr H.length acc' H' c m s x I G items) ?_ items.length (.mk (.zero hm hI g0) w rfl A)
  intro n s' J
  cases J with
  | mk J w hl0 A₀ =>
  rename_i i H₀ acc l h₀ t₀ x₀ o rest
  have hD₀ := J.e.at hD
  have hC₀ := J.e.at hC
  rw [← hl0] at hD₀ hC₀
  cases rest with
  | nil =>
    cases w with
    | done =>
    refine it.last { s with heap := h₀, toks := t₀ } x₀ o J.e J.fin (fun q hq => A₀.N.get hq) (A₀.N.get J.hm) _ _ fun h' hx => ?_
    obtain ⟨x₁, A₁, _, had, bk⟩ := A₀.drop J.hm (it.fz0 _ _ J.g) J.hI hx
    exact h h' t₀ x₁ l A₁ (by rw [had, ← hl0]; exact hD₀) (by rw [had, ← hl0]; exact hC₀) fun z ez hz => bk z (J.back z ez hz) hz
  | cons v rest =>
    refine it.item i v J.at { s with heap := h₀, toks := t₀ } x₀ o J.e J.g (fun q hq => A₀.N.get hq) (A₀.N.get J.hm) _ _ fun h1 t u o' hs ho' g' hr => ?_
    obtain ⟨A₁, eS⟩ := A₀.turn J.hm (it.fz0 _ _ J.g) J.hI hs ho'
    have hC₁ := eS.at hC₀
    obtain ⟨oC, mC, c1, c2, c3⟩ := A₁.ok.objs _ _ C atC hC₁
    refine wpAny_assign_Name (wpAny_storeName_local (s := { s with heap := h1, toks := t }) (lookup_relabel_local hy) (c2.ns (A₁.N.get c1)) (fun h2 hn2 hs2 => ?_) (by simp [compEnvC, relabel, hk]))
    obtain ⟨o2, g2, n2⟩ := NsO.of hn2
    have exC := LW.put_ext (x := x₀.put I o') (o := o2) (A₁.owned atC hC₁ (.head _))
    have A₂ := A₁.chg (O' := .ns [(y, v)]) atC hC₁ (.head _) c1 hs2 g2 trivial ⟨o2, _, mem_setAt_self c1, n2, fun y' v' q => by
      rw [List.mem_singleton] at q
      cases q
      exact ⟨u, if_pos rfl, (hr _ (eS)).mono exC⟩⟩
    rw [setC] at A₂
    have e2 : ExtS x ((x₀.put I o').put C.1 o2) := (J.e.trans eS).trans exC.toS
    have hC2 := exC.at hC₁
    have hD2 := exC.at (eS.at hD₀)
    generalize (x₀.put I o').put C.1 o2 = x₂ at A₂ e2 exC hC2 hD2
    cases w with
    | turn ev w2 hb w =>
    rename_i items2 acc₁ H₁
    refine ev _ (by rw [← hl0]; exact atC) c O cl hcl { s with heap := h2, toks := _ } m x₂ C (by rw [← hl0]; exact hC2) A₂ (F.monoV e2.toV) _ _ fun u3 h3 t3 x3 A3 e3 r3 => ?_
    obtain ⟨_, _, _, m1, m2, hv3, rfl⟩ := VR.f r3
    rename_i its a n'
    refine wpAny_pyIter_list (s := { s with heap := h3, toks := t3 }) ⟨_, A3.N.get m1, rfl, _, rfl⟩ ?_
    have fk := fresh_key A3
    have ex4 := LW.more_ext (x := x3) (o := { cls := .type "list_iterator", data := .fields #[.ref a, .int 0 0] }) fk
    have A4 := A3.more (o := { cls := .type "list_iterator", data := .fields #[.ref a, .int 0 0] }) rfl
    have m4 : ((h3.objs.size : Addr), ({ cls := .type "list_iterator", data := .fields #[.ref a, .int 0 0] } : Obj)) ∈ (x3.more h3.objs.size { cls := .type "list_iterator", data := .fields #[.ref a, .int 0 0] }).led := .head _
    have o4 := LW.more_off (o := { cls := .type "list_iterator", data := .fields #[.ref a, .int 0 0] }) A3.ok fk
    have ma := List.mem_cons_of_mem ((h3.objs.size : Addr), ({ cls := .type "list_iterator", data := .fields #[.ref a, .int 0 0] } : Obj)) m1
    have mo := ex4.off m1 m2
    have it4 : ItAt W c (x3.more h3.objs.size { cls := .type "list_iterator", data := .fields #[.ref a, .int 0 0] }) h3.objs.size (fun i o => o.cls = .type "list_iterator" ∧ o.data = .fields #[.ref a, .int (i : Nat) 0]) items2 := by
      refine ⟨?_, ?_, ?_, ?_⟩
      · rintro i o ⟨hc, hd⟩
        unfold fz
        rw [hc, hd]
        rfl
      · rintro i s' x'' o eS ⟨hc, hd⟩ hled ho Q E k
        exact wpAny_pyIter_listiter ⟨o, ho, hc, hd⟩ k
      · rintro i v hi s' x'' o eS ⟨hc, hd⟩ hled ho Q E k
        obtain ⟨u, hu, ru⟩ := ((hv3.mono ex4).monoS eS).get hi
        have m5 := eS.led _ ma mo rfl
        refine wpAny_pyNext_list_item (x := u) (items := its.toArray) ⟨o, ho, hc, hd⟩ ⟨_, hled _ m5, rfl, _, rfl⟩ (by simpa using hu) fun h3 hit hsb => ?_
        obtain ⟨o', ho', hc', hd'⟩ := hit
        exact k h3 s'.toks u o' hsb ho' ⟨hc', hd'⟩ fun x3 e3 => ru.monoS e3
      · rintro s' x'' o eS ⟨hc, hd⟩ hled ho Q E k
        have m5 := eS.led _ ma mo rfl
        refine wpAny_pyNext_list_end (items := its.toArray) (O.hh rfl) ⟨o, ho, hc, hd⟩ ⟨_, hled _ m5, rfl, _, rfl⟩ ?_ k
        rw [hv3.length]
        simp
    generalize x3.more h3.objs.size { cls := .type "list_iterator", data := .fields #[.ref a, .int 0 0] } = x4 at ex4 A4 m4 o4 it4 mo
    have e24 := e3.trans ex4
    have hl1 := w2.len hl0
    have loop : ∀ (R' : Result → Shared → Prop), (∀ h5 t5 x5 l5, At W c m (H₁ ++ [.list acc₁, .ns l5]) h5 x5 → Ext x3 x5 → R' (.ok .next) { s with heap := h5, toks := t5 }) → codeAny (model W.prog W.w) c.A (.compLoop (.ListComp elt [⟨.Name y yp, iter, [], 0⟩, ⟨.Name z zp, i2, ifs, 0⟩] scope pos) 1 (.ref h3.objs.size) (.ref D.1) (compEnvC scope cl C.1 (c.env sc))) R' { s with heap := h3.push { cls := .type "list_iterator", data := .fields #[.ref a, .int 0 0] }, toks := t3 } := fun R' hR' =>
      comp_core (s := { s with heap := h3.push { cls := .type "list_iterator", data := .fields #[.ref a, .int 0 0] }, toks := t3 }) (ex := [(y, v)]) (items := items2) (acc₀ := acc) (acc' := acc₁) (H' := H₁) O (by intro p hp; rw [List.mem_singleton] at hp; rw [hp]; exact hyz) hcl hz hk it4.fz0 it4.item it4.last loop_in (l₀ := [(y, v)]) (fun p hp => hp) A4 (F.monoV (e2.trans e24.toS).toV) m4 o4 ⟨rfl, rfl⟩ (e24.at hD2) (e24.at hC2) (by rw [hl0]; exact w2) hb
        fun h5 t5 x5 l5 _ A5 hD5 hC5 bk5 => hR' h5 t5 x5 l5 A5 (bk5 x3 ex4 fk)
    have fin : ∀ h5 t5 x5 l5, At W c m (H₁ ++ [.list acc₁, .ns l5]) h5 x5 → Ext x3 x5 → ∃ m₁, m₁ < rest.length + 1 ∧ CmpJ W d sc scope y z i2 ifs elt fr H.length acc' H' c m s x I G items m₁ { s with heap := h5, toks := t5 } := fun h5 t5 x5 l5 A5 e35 =>
      ⟨rest.length, Nat.lt_succ_self _, .mk (J.step eS g' (exC.trans (e3.trans e35))) w hl1 A5⟩
    refine start_in (loop _ fun h5 t5 x5 l5 A5 e35 => fin h5 t5 x5 l5 A5 e35) ?_
    exact it4.self 0 { s with heap := h3.push { cls := .type "list_iterator", data := .fields #[.ref a, .int 0 0] }, toks := t3 } x4 _ (ExtS.refl _) ⟨rfl, rfl⟩ (fun q hq => A4.N.get hq) (A4.N.get m4) _ _ (loop _ fun h5 t5 x5 l5 A5 e35 => fin h5 t5 x5 l5 A5 e35)
theorem Ev.comp2 {y z : Str} {yp zp pos : Pos} {iter i2 elt : PySem.Expr} {ifs : List PySem.Expr} {items acc' : List AV} (hsrc : Src W d sc iter fr H items H₁) (w : CT2 W d sc scope y z i2 ifs elt fr H₁.length items [] H₁ acc' H') (st : CompSt scope sc y) (hz : scope.names.lookup z = some .local) (hyz : y ≠ z)
    (hb : (∀ (j : Nat) (O : MO), H₁[j]? = some O → O.bd H₁.length) → ∀ (j : Nat) (O : MO), H'[j]? = some O → O.bd H'.length) (ha : AV.bds H'.length acc') (hs : ∀ env x, foldedSetIterable iter env x = pure x) (hs2 : ∀ env x, foldedSetIterable i2 env x = pure x) :
    Ev W true d sc (.ListComp elt [⟨.Name y yp, iter, [], 0⟩, ⟨.Name z zp, i2, ifs, 0⟩] scope pos) fr H (.fl acc') H' := by
  intro c O s m x A F Q E h
  obtain ⟨cl, hclos, hcl⟩ := clos_ok O st.cells
  rw [eval_ListComp]
  refine wpAny_comprehension_free (use := Option.none) rfl (hs _) hclos st.kind st.nm ?_
  refine hsrc c O s m x A F _ E fun I h' t' x1 x2 o₀ G A2 e1 e2 hl1 hI1 hm hI g0 it => ?_
  refine comp_block0 (items := items) (rest := [⟨.Name z zp, i2, ifs, 0⟩]) (s := { s with heap := h', toks := t' }) (RR := fun acc C => compPost (model W.prog W.w) c.A E Option.none Q acc C) O hcl st A2 (F.mono (e1.trans e2)) it hm hI g0 fun D C h3 t3 x3 A3 hD3 hC3 e3 hCn => ?_
  refine comp_core2 (s := { s with heap := h3, toks := t3 }) (D := (D, D)) (C := (C, C)) O hyz hcl st.loc hz st.kind hs2 (it.mono e3.toS) A3 (F.mono ((e1.trans e2).trans e3)) (e3.led _ hm hI) (e3.off hm hI) g0 hD3 hC3 w ?_
  intro h4 t4 x4 l A4 hD hC back
  have hl := w.len rfl
  rw [← hl] at hD hC
  obtain ⟨o, mm, m1, hn, hv⟩ := A4.ok.objs _ _ (C, C) atC hC
  refine ⟨mm, hn.ns (A4.N.get m1), fun h5 hs5 => ?_⟩
  obtain ⟨x6, A6, hC6, r6, e6⟩ := A4.compEnd hD hC (hb fun j O hj => A2.ok.bd hj) ha
  have n3 := A4.N _ m1
  have A7 := A6.other hs5 hC6 n3.2.1 n3.2.2
  exact h (.ref D) h5 t4 x6 A7 (e1.trans (e6 x1 (back x1 (e2.trans e3) hI1) (by rw [hl, hl1]) fun q => hCn (e2.keys _ q))) r6
end
end
section
theorem cf_props {b : Nat} : ∀ (names : List (Str × NameKind)) (n : Nat) (acc : List (Str × Addr)), b ≤ n → (acc.map (·.2)).Nodup → (∀ p ∈ acc, b ≤ p.2 ∧ p.2 < n) → ((cellsFrom n names acc).map (·.2)).Nodup ∧ ∀ p ∈ cellsFrom n names acc, b ≤ p.2
  | [], n, acc, _, h1, h2 => ⟨h1, fun p hp => (h2 p hp).1⟩
  | (y, k) :: r, n, acc, hb, h1, h2 => by
    unfold cellsFrom
    by_cases hk : (k == .cell) = true
    · rw [if_pos hk]
      refine cf_props r (n + 1) ((y, n) :: acc) (Nat.le_succ_of_le hb) ?_ fun p hp => ?_
      · rw [List.map_cons, List.nodup_cons]
        refine ⟨fun q => ?_, h1⟩
        obtain ⟨p, hp, e⟩ := List.mem_map.mp q
        have := (h2 p hp).2
        rw [e] at this
        exact Nat.lt_irrefl _ this
      · rcases List.mem_cons.mp hp with rfl | hp
        · exact ⟨hb, Nat.lt_succ_self _⟩
        · exact ⟨(h2 p hp).1, Nat.lt_succ_of_lt (h2 p hp).2⟩
    · rw [if_neg hk]
      exact cf_props r n acc hb h1 h2
theorem cf_kind {x : Str} {a : Addr} : ∀ (names : List (Str × NameKind)) (n : Nat) (acc : List (Str × Addr)), (cellsFrom n names acc).lookup x = some a → (x, NameKind.cell) ∈ names ∨ acc.lookup x = some a
  | [], n, acc, h => .inr h
  | (y, k) :: r, n, acc, h => by
    unfold cellsFrom at h
    by_cases hk : (k == .cell) = true
    · rw [if_pos hk] at h
      rcases cf_kind r (n + 1) ((y, n) :: acc) h with h | h
      · exact .inl (.tail _ h)
      · rw [List.lookup_cons] at h
        cases hx : x == y with
        | true =>
          have hk' : k = .cell := by cases k <;> first | rfl | (cases hk)
          rw [beq_iff_eq.mp hx, hk']
          exact .inl (.head _)
        | false => rw [hx] at h; exact .inr h
    · rw [if_neg hk] at h
      exact (cf_kind r n acc h).imp (.tail _) id
theorem look_nodup {x : Str} {k : NameKind} : ∀ {l : List (Str × NameKind)}, (l.map (·.1)).Nodup → (x, k) ∈ l → l.lookup x = some k
  | [], _, h => nomatch h
  | z :: l, nd, h => by
    rw [List.map_cons, List.nodup_cons] at nd
    rw [List.lookup_cons]
    rcases List.mem_cons.mp h with h | h
    · subst h; simp
    · have : (x == z.1) = false := by
        rw [beq_eq_false_iff_ne]
        intro e
        exact nd.1 (by rw [← e]; exact List.mem_map_of_mem (f := Prod.fst) h)
      rw [this]
      exact look_nodup nd.2 h
theorem cellsAre_keys {cm : Str → Option Value} {cs : List (Str × Addr)} {cells : List (Addr × Obj)} (h : CellsAre cm cs cells) : cells.map (·.1) = cs.map (·.2) := by
  induction h with
  | nil => rfl
  | cons _ _ ih => simp [ih]
theorem cellsAre_at {cm : Str → Option Value} {y : Str} {a : Addr} {cs : List (Str × Addr)} {cells : List (Addr × Obj)} (h : CellsAre cm cs cells) : cs.lookup y = some a → ∃ o, (a, o) ∈ cells ∧ o.data = .cell (cm y) := by
  induction h with
  | nil => intro q; cases q
  | @cons n' c' o cs cells hd _ ih =>
    intro q
    rw [List.lookup_cons] at q
    cases hx : y == n' with
    | true =>
      rw [hx] at q
      cases q
      rw [beq_iff_eq.mp hx]
      exact ⟨o, .head _, hd⟩
    | false =>
      rw [hx] at q
      obtain ⟨o', h1, h2⟩ := ih q
      exact ⟨o', .tail _ h1, h2⟩
theorem bindL_at {kindOf : Str → Option NameKind} {y : Str} {u : Value} (hy : kindOf y = some .local) : ∀ {l : List (Str × Value)} {m : Str → Option Value}, (l.map (·.1)).Nodup → (y, u) ∈ l ∨ (m y = some u ∧ y ∉ l.map (·.1)) → bindL kindOf l m y = some u
  | [], m, _, h => by
    rcases h with h | h
    · cases h
    · exact h.1
  | (n, v) :: l, m, nd, h => by
    rw [List.map_cons, List.nodup_cons] at nd
    unfold bindL
    refine bindL_at hy nd.2 ?_
    rcases h with h | ⟨h1, h2⟩
    · rcases List.mem_cons.mp h with h | h
      · cases h
        refine .inr ⟨?_, nd.1⟩
        rw [if_pos hy]
        exact if_pos rfl
      · exact .inl h
    · rw [List.map_cons, List.mem_cons, not_or] at h2
      refine .inr ⟨?_, h2.2⟩
      split
      · exact (if_neg h2.1).trans h1
      · exact h1
theorem bindC_at {kindOf : Str → Option NameKind} {y : Str} {u : Value} (hy : kindOf y ≠ some .local) : ∀ {l : List (Str × Value)} {m : Str → Option Value}, (l.map (·.1)).Nodup → (y, u) ∈ l ∨ (m y = some u ∧ y ∉ l.map (·.1)) → bindC kindOf l m y = some u
  | [], m, _, h => by
    rcases h with h | h
    · cases h
    · exact h.1
  | (n, v) :: l, m, nd, h => by
    rw [List.map_cons, List.nodup_cons] at nd
    unfold bindC
    refine bindC_at hy nd.2 ?_
    rcases h with h | ⟨h1, h2⟩
    · rcases List.mem_cons.mp h with h | h
      · cases h
        refine .inr ⟨?_, nd.1⟩
        rw [if_neg hy]
        exact if_pos rfl
      · exact .inl h
    · rw [List.map_cons, List.mem_cons, not_or] at h2
      refine .inr ⟨?_, h2.2⟩
      split
      · exact h1
      · exact (if_neg h2.1).trans h1
theorem zip_at {K : KP} {x : LW} {ls : List Str} {ps : List Str} : ∀ {vs : List AV} {us : List Value}, VRs K x vs us → ps.length = us.length → (ps ++ ls).Nodup → ∀ {y : Str} {v : AV}, Loc (ps ++ ls) (vs.map some ++ ls.map fun _ => none) y v → ∃ u, (y, u) ∈ ps.zip us ∧ VR K x v u := by
  induction ps with
  | nil =>
    intro vs us r hl nd y v l
    cases us with
    | cons _ _ => cases hl
    | nil => cases vs with
      | nil => exact (no_loc0 l).elim
      | cons _ _ => obtain ⟨_, _, e, _⟩ := r.cc; cases e
  | cons p ps ih =>
    intro vs us r hl nd y v l
    cases vs with
    | nil => rw [r.zz] at hl; cases hl
    | cons v0 vs =>
      obtain ⟨u0, us, rfl, r, rs⟩ := r.cc
      rw [List.cons_append, List.nodup_cons] at nd
      cases l with
      | z => exact ⟨u0, .head _, r⟩
      | s l =>
        obtain ⟨u, h1, h2⟩ := ih rs (Nat.succ.inj hl) nd.2 l
        exact ⟨u, .tail _ h1, h2⟩
section
variable {W : Wd} {b : Bool} {d : Nat} {fr' : Fr2} {H H' : Hp} {fl : Fl}
theorem callC {f : Addr} {name qual : Str} {params : Arguments} {body : List PySem.Stmt} {scope : Scope} {dV kV doc pm cdv ct oc : Value} {an od : Option Addr} {osl : Array (Option Value)} {args : List AV} {ps ls : List Str} {r : AV} {R : Result → Shared → Prop}
    {A₀ A : Around} {base h₀ : Heap} {env : Env} {outer : List Env} {L : Addr} {m : Str → Option Value} {s : Shared} {x : LW}
    (Bw : Below A₀ base outer h₀) (hA : A.frames = some (env :: outer)) (hfr : env.frame = some L) (hke : env.scope.kind = .function) (XB : W.K.In base) (TB : Top W.pq W.loose W.mean W.mg W.mb base) (dep : A.depth + (d + 1) < 1000) (un : A.units + 4 * (d + 1) + 100 < 9900) (hh : b = true → A.handled = none) (d1 : 302 ≤ A.depth + 1) (tp : A.depth + 1 = 302 → env :: outer = [])
    (F : Fr h₀ L s.heap m) (N : News h₀ L s.heap x.led) (ok : LwOk W.kp H x)
    (hf : W.K.lookup f = some ⟨oc, od, .func (fnOf name qual params body scope dV kV doc pm an cdv ct), osl⟩) (hcd : codeIn W.K cdv qual = true) {us : List Value} (hus : VRs W.kp x args us)
    (hbind : bindArgs (fnOf name qual params body scope dV kV doc pm an cdv ct) ⟨us, []⟩ = pure (ps.zip us)) (hkd : ps.all (fun y => scope.names.lookup y == some .local || scope.names.lookup y == some .cell) = true)
    (hn : args.length = ps.length) (nd : (ps ++ ls).Nodup) (hnd : ((cellsFrom 0 scope.names []).map (·.1)).Nodup) (hnm : (scope.names.map (·.1)).Nodup) (hco : scope.isCoroutine = false) (hgen : scope.isGenerator = false) (hk : scope.kind = .function)
    (h : Exs W b d scope body (startFr ps ls args) H fl fr' H') (hr : fl.back = some r)
    (hR : ∀ u h' t' x', Fr h₀ L h' m → News h₀ L h' x'.led → LwOk W.kp H' x' → Ext x x' → VR W.kp x' r u → R (.ok (.ret u)) { s with heap := h', toks := t' }) : codeAny (model W.prog W.w) A (.call (.ref f) ⟨us, []⟩) R s := by
  have X : W.K.In h₀ := XB.keeps Bw.stays
  have T : Top W.pq W.loose W.mean W.mg W.mb h₀ := TB.keeps Bw.stays
  have hul : us.length = ps.length := by have := hus.length; omega
  have hzk : (((ps.zip us).map (·.1))).Nodup := by
    have e : (ps.zip us).map (·.1) = ps := List.map_fst_zip (by omega)
    rw [e]
    exact (List.nodup_append.mp nd).1
  refine callX_cells Bw F N T.nolimit hA hfr hke ((X.keeps F.keep) _ _ hf) rfl (codeRec_of (X.keeps F.keep) hcd) (by show A.depth < 1000; omega) (BindsTo.of_eq hbind) (kindsX ?_) hnd (fun g L' h₁ tk cells FG F' N' Y B' st lt => ?_) hco hgen hk
  · rw [List.all_eq_true]
    intro y hy
    exact List.all_eq_true.mp hkd y.1 (List.of_mem_zip hy).1
  · obtain ⟨cp1, cp2⟩ := cf_props (b := L' + 1) scope.names (L' + 1) [] (Nat.le_refl _) List.nodup_nil (fun p hp => nomatch hp)
    have ck := cellsAre_keys Y
    have coff : ∀ p ∈ cells, p.1 ∉ x.led.map (·.1) := fun p hp q => by
      obtain ⟨z, hz, e⟩ := List.mem_map.mp q
      have h1 := lt z hz
      have h2 : p.1 ∈ cells.map (·.1) := List.mem_map_of_mem hp
      rw [ck] at h2
      obtain ⟨w, hw, e2⟩ := List.mem_map.mp h2
      have h3 := cp2 w hw
      have e3 : z.1 = p.1 := e
      have e4 : w.2 = p.1 := e2
      rw [e3] at h1
      rw [e4] at h3
      exact Nat.lt_irrefl _ (Nat.lt_of_lt_of_le (Nat.lt_of_lt_of_le h1 (Nat.le_succ _)) h3)
    let x1 : LW := { x with led := cells ++ x.led }
    have ex1 : Ext x x1 := ⟨List.prefix_refl _, fun p hp _ => List.mem_append_right _ hp, fun _ h => .inl h, fun a ha => by
      show a ∈ (cells ++ x.led).map (·.1)
      rw [List.map_append]; exact List.mem_append_right _ ha⟩
    have coff2 : ∀ p ∈ cells, p.1 ∉ x1.own := fun p hp q => coff p hp (ok.ownKeys q)
    let c' : Cx := { A₀ := A, A := A.deeper (envX qual scope L' f cdv (cellsFrom (L' + 1) scope.names [])), base := base, h₀ := g, outer := env :: outer, qual := qual, L := L', f := f, cd := cdv, cl := cellsFrom (L' + 1) scope.names [] }
    have O' : CxOk W b d scope c' := ⟨B', Around.frames_deeper hA, hk, XB, TB, (by show A.depth + 1 + d < 1000; omega), (by show A.units + 3 + 4 * d + 100 < 9900; omega), hh, (fun y a q => by
      rcases cf_kind scope.names (L' + 1) [] q with q | q
      · exact look_nodup hnm q
      · cases q), d1, tp, (fun y q => Option.isSome_iff_exists.mp (cellsFrom_some scope.names (L' + 1) [] (.inl q)))⟩
    have ok1 : LwOk W.kp H x1 := by
      refine ⟨?_, ok.own, ok.nd, ok.len, fun k O p hk hp => (ok.objs k O p hk hp).mono ex1 fun _ _ _ hm => List.mem_append_right _ hm⟩
      show ((cells ++ x.led).map (·.1)).Nodup
      rw [List.map_append]
      refine List.nodup_append.mpr ⟨by rw [ck]; exact cp1, ok.keys, fun a ha b hb e => ?_⟩
      obtain ⟨p, hp, e1⟩ := List.mem_map.mp ha
      exact coff p hp (by rw [e1, e]; exact hb)
    refine h c' O' { s with heap := h₁, toks := tk } (bindL (envOfC qual scope L' f cdv).kindOf (ps.zip us) fun _ => none) x1 ⟨F', N', ok1⟩ ⟨nd, fun y v l => ?_⟩ _ _ fun f' m' h' t' x' A' F2 e' r' => ?_
    · obtain ⟨u, h1, h2⟩ := zip_at hus (by omega) nd l
      have hyp : y ∈ ps := (List.of_mem_zip h1).1
      have hky := List.all_eq_true.mp hkd y hyp
      refine ⟨u, ?_, h2.mono ex1⟩
      rcases Bool.or_eq_true_iff.mp hky with q | q
      · have q : scope.names.lookup y = some .local := beq_iff_eq.mp q
        exact .inl ⟨O'.nl q, bindL_at q hzk (.inl h1)⟩
      · have q : scope.names.lookup y = some .cell := beq_iff_eq.mp q
        obtain ⟨a, ha⟩ := O'.lc2 y q
        obtain ⟨o, ho, hd⟩ := cellsAre_at Y ha
        refine .inr ⟨a, o, ha, List.mem_append_left _ ho, coff2 _ ho, ?_⟩
        rw [hd, bindC_at (by rw [show (envOfC qual scope L' f cdv).kindOf y = scope.names.lookup y from rfl, q]; intro z; cases z) hzk (.inl h1)]
    · refine leaveK_ A'.F A'.N fun kF kN => ?_
      obtain ⟨oL, es, ep, hL, r0⟩ := FG.ns
      cases fl with
      | next =>
        cases f' with
        | next => cases hr; exact hR .none h' t' x' kF kN A'.ok (ex1.trans e') .none
        | _ => exact r'.elim
      | ret v =>
        cases f' with
        | ret u => cases hr; exact hR u h' t' x' kF kN A'.ok (ex1.trans e') r'
        | _ => exact r'.elim
      | _ => cases hr
theorem Cl.ofBodyC {f : Addr} {name qual : Str} {params : Arguments} {body : List PySem.Stmt} {scope : Scope} {dV kV doc pm cdv ct oc : Value} {an od : Option Addr} {osl : Array (Option Value)} {args : List AV} {ps ls : List Str} {r : AV}
    (hf : W.K.lookup f = some ⟨oc, od, .func (fnOf name qual params body scope dV kV doc pm an cdv ct), osl⟩) (hcd : codeIn W.K cdv qual = true)
    (hbind : ∀ us : List Value, us.length = ps.length → bindArgs (fnOf name qual params body scope dV kV doc pm an cdv ct) ⟨us, []⟩ = pure (ps.zip us)) (hkd : ps.all (fun y => scope.names.lookup y == some .local || scope.names.lookup y == some .cell) = true)
    (hn : args.length = ps.length) (nd : (ps ++ ls).Nodup) (hnd : ((cellsFrom 0 scope.names []).map (·.1)).Nodup) (hnm : (scope.names.map (·.1)).Nodup) (hco : scope.isCoroutine = false) (hgen : scope.isGenerator = false) (hk : scope.kind = .function)
    (h : Exs W b d scope body (startFr ps ls args) H fl fr' H') (hr : fl.back = some r) : Cl W b (d + 1) f args H r H' := by
  intro sc c O s m x A us hus R hR
  have hul : us.length = ps.length := by have := hus.length; omega
  exact callC O.B O.hA rfl O.hk O.XB O.TB O.dep O.un O.hh (by have := O.d1; omega) (by have := O.d1; intro q; omega) A.F A.N A.ok hf hcd hus (hbind us hul) hkd hn nd hnd hnm hco hgen hk h hr
    fun u h' t' x' F' N' ok' e' r' => hR u h' t' x' ⟨F', N', ok'⟩ e' r'
end
end
section
section
variable {W : Wd} {b : Bool} {d : Nat} {sc scope : Scope} {fr : Fr2} {H H₁ H₂ H₃ : Hp} {v : AV} {e : PySem.Expr} {p : Pos}
theorem Ev.sliceF {o : PySem.Expr} {sp : Pos} {lo hi : Option PySem.Expr} {i j : Option Int} {l : List AV} (h1 : Ev W b d sc o fr H (.fl l) H₁) (h2 : EvO W b d sc lo fr H₁ i H₂) (h3 : EvO W b d sc hi fr H₂ j H₃) (hl : l.length ≤ 100000) :
    Ev W b d sc (.Subscript o (.Slice lo hi Option.none sp) p) fr H (.fl (sliceV l i j Option.none)) H₃ := by
  intro c O s m x A F Q E h
  refine Subscript_ (h1 c O s m x A F _ _ fun u h' t' x' A' e' r' => ?_)
  refine wpAny_Slice (h2.run c O _ m x' A' (F.mono e') _ _ fun u2 h2' t2 x2 A2 e2 r2 => ?_)
  refine h3.run c O _ m x2 A2 (F.mono (e'.trans e2)) _ _ fun u3 h3' t3 x3 A3 e3 r3 => ?_
  rw [evalPart_none]
  refine wpAny_pure ?_
  have fk := fresh_key A3
  have A4 := A3.more (o := { cls := .type "slice", data := .fields #[u2, u3, .none] }) rfl
  have e4 := LW.more_ext (x := x3) (o := { cls := .type "slice", data := .fields #[u2, u3, .none] }) fk
  have e24 := e2.trans (e3.trans e4)
  obtain ⟨_, _, _, m0, mo, hv0, rfl⟩ := VR.f r'
  have m1 := e24.led _ m0 mo
  have hv := hv0.mono e24
  rename_i its a nn
  have hln := hv.length
  refine tail_any (T := "list") ⟨_, A4.N.get m1, rfl⟩ slot_list_getitem.lookup ?_ rfl
  refine wpAny_getItem_list_slice (s := { s with heap := h3'.push _, toks := t3 }) (items := its.toArray) ⟨_, A4.N.get m1, rfl, nn, rfl⟩ ⟨_, A4.N.get (.head _), rfl, rfl⟩ r2 r3 .none (by intro z; cases z) ?_ ?_
  · have fk5 := fresh_key A4
    have hp : (slicePick its.toArray i j Option.none) = (((sliceRange (sliceBounds i j Option.none l.length).1 (sliceBounds i j Option.none l.length).2.1 (sliceBounds i j Option.none l.length).2.2).filterMap (its[·]?))).toArray := by
      unfold slicePick
      rw [List.size_toArray, hln]
      congr 1
      congr 1
      funext z
      simp
    rw [hp]
    have A5 := A4.more (o := lstO ((sliceRange (sliceBounds i j Option.none l.length).1 (sliceBounds i j Option.none l.length).2.1 (sliceBounds i j Option.none l.length).2.2).filterMap (its[·]?)) 0) rfl
    exact h _ _ _ _ A5 ((e'.trans e24).trans (LW.more_ext fk5)) (.fl (.head _) (LW.more_off A4.ok fk5) ((hv.pick _).mono (LW.more_ext fk5)))
  · rw [List.size_toArray, ← hln]
    exact Nat.le_trans hl (by unfold sizeLine; decide)
theorem sliceV_take1 : ∀ (l : List AV), sliceV l Option.none (some 1) Option.none = l.take 1
  | [] => rfl
  | a :: l => by
    have hb : sliceBounds Option.none (some 1) Option.none (a :: l).length = (0, 1, 1) := by
      unfold sliceBounds
      simp
      omega
    unfold sliceV
    rw [hb]
    rfl
theorem ct_filter {y : Str} {ifs : List PySem.Expr} {elt : PySem.Expr} {P : Int → Bool} (ht : ∀ (v : Int) (acc : List AV), TstC W d sc scope (H.length + 1) ifs fr (H ++ [.list acc, .ns [(y, .int v)]]) (P v) (H ++ [.list acc, .ns [(y, .int v)]]))
    (he : ∀ (v : Int) (acc : List AV), EvC W d sc scope (H.length + 1) elt fr (H ++ [.list acc, .ns [(y, .int v)]]) (.int v) (H ++ [.list acc, .ns [(y, .int v)]])) :
    ∀ (rest : List Int) (acc : List AV), CT W d sc scope y ifs elt fr H.length [] (rest.map .int) acc H (acc ++ (rest.filter P).map .int) H
  | [], acc => by simpa using CT.done
  | v :: rest, acc => by
    have t := ht v acc
    cases hp : P v with
    | false =>
      rw [hp] at t
      rw [List.filter_cons_of_neg (by rw [hp]; decide)]
      exact .skip t rfl (ct_filter ht he rest acc)
    | true =>
      rw [hp] at t
      rw [List.filter_cons_of_pos hp]
      have := ct_filter ht he rest (acc ++ [.int v])
      rw [List.append_assoc] at this
      exact .take t rfl (he v acc) rfl this
theorem ct_inner {y z : Str} {ifs : List PySem.Expr} {elt : PySem.Expr} {P : Int → Bool} {o : Int} (ht : ∀ (v : Int) (acc : List AV), TstC W d sc scope (H.length + 1) ifs fr (H ++ [.list acc, .ns [(z, .int v), (y, .int o)]]) (P v) (H ++ [.list acc, .ns [(z, .int v), (y, .int o)]]))
    (he : ∀ (v : Int) (acc : List AV), EvC W d sc scope (H.length + 1) elt fr (H ++ [.list acc, .ns [(z, .int v), (y, .int o)]]) (.int o) (H ++ [.list acc, .ns [(z, .int v), (y, .int o)]])) :
    ∀ (rest : List Int) (acc : List AV), CT W d sc scope z ifs elt fr H.length [(y, .int o)] (rest.map .int) acc H (acc ++ ((rest.filter P).map fun _ => o).map .int) H
  | [], acc => by simpa using CT.done
  | v :: rest, acc => by
    have t := ht v acc
    cases hp : P v with
    | false =>
      rw [hp] at t
      rw [List.filter_cons_of_neg (by rw [hp]; decide)]
      exact .skip t rfl (ct_inner ht he rest acc)
    | true =>
      rw [hp] at t
      rw [List.filter_cons_of_pos hp]
      have := ct_inner ht he rest (acc ++ [.int o])
      rw [List.append_assoc] at this
      exact .take t rfl (he v acc) rfl this
theorem ct_filter0 {y : Str} {ifs : List PySem.Expr} {elt : PySem.Expr} {P : Int → Bool} (ht : ∀ (v : Int) (acc : List AV), TstC W d sc scope (H.length + 1) ifs fr (H ++ [.list acc, .ns [(y, .int v)]]) (P v) (H ++ [.list acc, .ns [(y, .int v)]]))
    (he : ∀ (v : Int) (acc : List AV), EvC W d sc scope (H.length + 1) elt fr (H ++ [.list acc, .ns [(y, .int v)]]) (.int v) (H ++ [.list acc, .ns [(y, .int v)]])) (l : List Int) : CT W d sc scope y ifs elt fr H.length [] (l.map .int) [] H ((l.filter P).map .int) H := by
  have h := ct_filter ht he l []
  rwa [List.nil_append] at h
theorem ct2_all {y z : Str} {i2 : PySem.Expr} {ifs : List PySem.Expr} {elt : PySem.Expr} {G : List Int} (hi : ∀ (o : Int) (K : Hp), K[H.length + 1]? = some (.ns [(y, .int o)]) → EvC W d sc scope (H.length + 1) i2 fr K (.fl (G.map .int)) K)
    (ht : ∀ (o v : Int) (acc : List AV), TstC W d sc scope (H.length + 1) ifs fr (H ++ [.list acc, .ns [(z, .int v), (y, .int o)]]) (decide (v = o)) (H ++ [.list acc, .ns [(z, .int v), (y, .int o)]]))
    (he : ∀ (o v : Int) (acc : List AV), EvC W d sc scope (H.length + 1) elt fr (H ++ [.list acc, .ns [(z, .int v), (y, .int o)]]) (.int o) (H ++ [.list acc, .ns [(z, .int v), (y, .int o)]])) :
    ∀ (rest : List Int) (acc : List AV), acc.length + rest.length * G.length + G.length ≤ 900 → CT2 W d sc scope y z i2 ifs elt fr H.length (rest.map .int) acc H (acc ++ (rest.flatMap fun o => (G.filter fun v => decide (v = o)).map fun _ => o).map .int) H
  | [], acc, _ => by simpa using CT2.done
  | o :: rest, acc, hl => by
    rw [List.length_cons, Nat.succ_mul] at hl
    have hf := List.length_filter_le (fun v => decide (v = o)) G
    have ih := ct2_all hi ht he rest (acc ++ ((G.filter fun v => decide (v = o)).map fun _ => o).map .int) (by rw [List.length_append, List.length_map, List.length_map]; omega)
    rw [List.flatMap_cons, List.map_append, ← List.append_assoc]
    exact .turn (hi o) (ct_inner (ht o) (he o) G acc) (by rw [List.length_map]; omega) ih
theorem ct2_all0 {y z : Str} {i2 : PySem.Expr} {ifs : List PySem.Expr} {elt : PySem.Expr} {G : List Int} (hi : ∀ (o : Int) (K : Hp), K[H.length + 1]? = some (.ns [(y, .int o)]) → EvC W d sc scope (H.length + 1) i2 fr K (.fl (G.map .int)) K)
    (ht : ∀ (o v : Int) (acc : List AV), TstC W d sc scope (H.length + 1) ifs fr (H ++ [.list acc, .ns [(z, .int v), (y, .int o)]]) (decide (v = o)) (H ++ [.list acc, .ns [(z, .int v), (y, .int o)]]))
    (he : ∀ (o v : Int) (acc : List AV), EvC W d sc scope (H.length + 1) elt fr (H ++ [.list acc, .ns [(z, .int v), (y, .int o)]]) (.int o) (H ++ [.list acc, .ns [(z, .int v), (y, .int o)]]))
    (l : List Int) (hl : l.length * G.length + G.length ≤ 900) : CT2 W d sc scope y z i2 ifs elt fr H.length (l.map .int) [] H ((l.flatMap fun o => (G.filter fun v => decide (v = o)).map fun _ => o).map .int) H := by
  have h := ct2_all hi ht he l [] (by simpa using hl)
  rwa [List.nil_append] at h
theorem bds_ints {n : Nat} : ∀ (l : List Int), AV.bds n (l.map .int)
  | [] => by unfold AV.bds; trivial
  | a :: l => by
    show AV.bds n (.int a :: l.map .int)
    unfold AV.bds
    exact ⟨by unfold AV.bd; trivial, bds_ints l⟩
end
noncomputable def metL (F : List Int) (cuts : Bool) (q : Int) : List Int := if cuts then (F.filter fun v => decide (q = 3) || decide (q = v)).take 1 else F.filter fun v => decide (q = 3) || decide (q = v)
noncomputable def dueL (F G : List Int) (cuts : Bool) (q : Int) : List Int := (metL F cuts q).flatMap fun o => (G.filter fun v => decide (v = o)).map fun _ => o
theorem metL_len (F : List Int) (cuts : Bool) (q : Int) : (metL F cuts q).length ≤ F.length := by
  unfold metL
  split
  · rw [List.length_take]
    have := List.length_filter_le (fun v => decide (q = 3) || decide (q = v)) F
    omega
  · exact List.length_filter_le _ _
theorem due_len (M G : List Int) : (M.flatMap fun o => (G.filter fun v => decide (v = o)).map fun _ => o).length ≤ M.length * G.length := by
  induction M with
  | nil => simp
  | cons a M ih =>
    rw [List.flatMap_cons, List.length_append, List.length_map, List.length_cons, Nat.succ_mul]
    have := List.length_filter_le (fun v => decide (v = a)) G
    omega
section
variable {S : St0} {d : Nat} {H : Hp}
theorem answers_ok {F G : List Int} {cuts : Bool} {q : Int} (hF : F.length ≤ 20) (hG : G.length ≤ 20) : Cl S.W true (d + 3) a__law_answers [.fl (F.map .int), .fl (G.map .int), .bool cuts, .int q] H (.fl ((dueL F G cuts q).map .int)) H := by
  refine' Cl.ofBodyC (W := S.W) (ps := [Str.ofString "first", Str.ofString "second", Str.ofString "cuts", Str.ofString "asked"]) (ls := [Str.ofString "met"]) (fl := .ret (.fl ((dueL F G cuts q).map .int))) (by exact rfl) (by kernel_rfl) ?bi (by kernel_rfl) rfl (by decide +kernel) (by decide +kernel) (by decide +kernel) rfl rfl rfl ?h rfl
  case bi =>
    intro us hu
    obtain ⟨u0, u1, u2, u3, rfl⟩ := usIs4 hu
    rfl
  case h =>
    dsimp only [startFr, List.map, List.cons_append, List.nil_append]
    refine' Exs.next (H₁ := H) (Ex.comp (H₁ := H) (items := F.map .int) (acc' := (F.filter fun v => decide (q = 3) || decide (q = v)).map .int) (Src.list (Ev.ofLocal (v := .fl (F.map .int)) .z (by kernel_rfl) (by kernel_rfl))) ?zw (by rw [List.length_map]; omega) ?zst (fun h => h) (bds_ints _) (fun _ _ => rfl) (.s (.s (.s (.s .z)))) (by kernel_rfl) (fun _ => rfl)) ?zk
    case zst => exact ⟨by decide +kernel, rfl, by decide +kernel, by kernel_rfl, by kernel_rfl⟩
    case zw =>
      refine' ct_filter0 (W := S.W) (P := fun v => decide (q = 3) || decide (q = v)) (H := H) ?zt ?ze F
      case zt =>
        intro v acc
        refine' TstC.one ?zo
        case zo =>
        by_cases c : q = 3
        · have e : (decide (q = 3) || decide (q = v)) = true := by rw [decide_eq_true c]; rfl
          rw [e]
          refine' TsC.orT (TsC.cmp (v := .int q) (v' := .int 3) (EvC.cell (.s (.s (.s .z))) (by kernel_rfl) (by kernel_rfl) rfl (by kernel_rfl)) EvC.int ?zc rfl)
          case zc => have := CmpR.eqI (W := S.W) (i := q) (j := 3); rw [decide_eq_true c] at this; exact this
        · have e : (decide (q = 3) || decide (q = v)) = decide (q = v) := by rw [decide_eq_false c]; rfl
          rw [e]
          refine' TsC.orF (TsC.cmp (v := .int q) (v' := .int 3) (EvC.cell (.s (.s (.s .z))) (by kernel_rfl) (by kernel_rfl) rfl (by kernel_rfl)) EvC.int ?zc rfl)
            (TsC.cmp (v := .int q) (v' := .int v) (EvC.cell (.s (.s (.s .z))) (by kernel_rfl) (by kernel_rfl) rfl (by kernel_rfl)) (EvC.loc atC (.head _) (by kernel_rfl) rfl (by kernel_rfl)) CmpR.eqI rfl)
          case zc => have := CmpR.eqI (W := S.W) (i := q) (j := 3); rw [decide_eq_false c] at this; exact this
      case ze =>
        intro v acc
        exact EvC.loc atC (.head _) (by kernel_rfl) rfl (by kernel_rfl)
    case zk =>
    refine' Exs.next (H₁ := H) (fr₁ := ([Str.ofString "first", Str.ofString "second", Str.ofString "cuts", Str.ofString "asked", Str.ofString "met"], [some (.fl (F.map .int)), some (.fl (G.map .int)), some (.bool cuts), some (.int q), some (.fl ((metL F cuts q).map .int))])) ?zi ?zr
    case zi =>
      cases cuts with
      | true =>
        refine' Ex.ifT (H₁ := H) (Ts.val (Ev.ofLocal (v := .bool true) (.s (.s .z)) (by kernel_rfl) (by kernel_rfl)) (fun _ _ => rfl)) (Exs.next (H₁ := H) (Ex.assign (v := .fl ((metL F true q).map .int)) ?zv (.s (.s (.s (.s .z)))) (by kernel_rfl) (fun _ _ => rfl)) Exs.nil)
        case zv =>
          refine' Ev.eq (Ev.sliceF (i := Option.none) (j := some 1) (Ev.ofLocal (v := .fl ((F.filter fun v => decide (q = 3) || decide (q = v)).map .int)) (.s (.s (.s (.s .z)))) (by kernel_rfl) (by kernel_rfl)) (H₂ := H) (show _ = _ from rfl) (show Ev _ _ _ _ _ _ _ _ _ from Ev.int) ?zl) ?zq
          case zl =>
            rw [List.length_map]
            have := List.length_filter_le (fun v => decide (q = 3) || decide (q = v)) F
            omega
          case zq => rw [sliceV_take1, ← List.map_take]; rfl
      | false => exact Ex.ifF (H₁ := H) (Ts.val (Ev.ofLocal (v := .bool false) (.s (.s .z)) (by kernel_rfl) (by kernel_rfl)) (fun _ _ => rfl)) Exs.nil
    case zr =>
    refine' Exs.ret (Ex.ret (Ev.comp2 (H₁ := H) (items := (metL F cuts q).map .int) (acc' := (dueL F G cuts q).map .int) (Src.list (Ev.ofLocal (v := .fl ((metL F cuts q).map .int)) (.s (.s (.s (.s .z)))) (by kernel_rfl) (by kernel_rfl))) ?zw ?zst (by kernel_rfl) (by decide +kernel) (fun h => h) (bds_ints _) (fun _ _ => rfl) (fun _ _ => rfl)))
    case zst => exact ⟨by decide +kernel, rfl, by decide +kernel, by kernel_rfl, by kernel_rfl⟩
    case zw =>
      refine' ct2_all0 (W := S.W) (G := G) (H := H) ?zi ?zt ?ze (metL F cuts q) ?zl
      case zi => exact fun o K hK => EvC.cell (v := .fl (G.map .int)) (.s .z) (by kernel_rfl) (by kernel_rfl) rfl (by kernel_rfl)
      case zt => exact fun o v acc => TstC.one (TsC.cmp (EvC.loc (v := .int v) atC (.head _) (by kernel_rfl) rfl (by kernel_rfl)) (EvC.loc (v := .int o) atC (.tail _ (.head _)) (by kernel_rfl) rfl (by kernel_rfl)) CmpR.eqI rfl)
      case ze => exact fun o v acc => EvC.loc (v := .int o) atC (.tail _ (.head _)) (by kernel_rfl) rfl (by kernel_rfl)
      case zl =>
        have h1 := metL_len F cuts q
        have h2 : (metL F cuts q).length * G.length ≤ 20 * 20 := Nat.mul_le_mul (by omega) hG
        omega
end
end
section
section
variable {W : Wd} {b : Bool} {d : Nat} {sc : Scope} {fr : Fr2} {H H₁ H₂ H₃ : Hp} {v : AV} {e o : PySem.Expr} {p p2 ap : Pos}
theorem Ev.mul {l r : PySem.Expr} {i j : Int} (h1 : Ev W b d sc l fr H (.int i) H₁) (h2 : Ev W b d sc r fr H₁ (.int j) H₂) (i0 : -100000 ≤ i) (i1 : i ≤ 100000) (j0 : -100000 ≤ j) (j1 : j ≤ 100000) : Ev W b d sc (.BinOp l .Mult r p) fr H (.int (i * j)) H₂ := by
  intro c O s m x A F Q E h
  refine wpAny_BinOp (h1 c O s m x A F _ _ fun u h' t' x' A' e' r' => ?_)
  refine h2 c O _ m x' A' (F.mono e') _ _ fun u2 h2' t2 x2 A2 e2 r2 => ?_
  cases r'; cases r2
  exact mul_int (h _ _ _ x2 A2 (e'.trans e2) (.int _ _))
theorem Ev.lenF {f : Str} {np : Pos} {l : List AV} (h0 : Ev W b d sc (.Name f np) fr H (.val (.builtin "len")) H) (h1 : Ev W b d sc e fr H (.fl l) H₁) (hl : l.length ≤ 1000) (hst : ∀ env, starEach [e] env = [(false, eval e env)]) :
    Ev W b d sc (.Call (.Name f np) [e] [] p) fr H (.int l.length) H₁ := by
  intro c O s m x A F Q E h
  refine wpAny_Call_ofName (h0 c O s m x A F _ _ fun u h' t' x' A' e' r' => ?_)
  first | obtain rfl := VR.v r' | obtain ⟨_, rfl⟩ := VR.i r' | obtain rfl := VR.t r' | obtain rfl := VR.n r' | obtain ⟨_, rfl⟩ := VR.s r' | cases r'
  refine callWith_of (P := fun _ => True) (by rw [hst]; rfl) (fun _ _ => ⟨_, .inr (.inl rfl), looks_machine⟩) ?_
  rw [hst]
  refine evalArgs_plain (Calls.spliced_cons ?_)
  refine h1 c O _ m x' A' (F.mono e') _ _ fun u2 h2' t2 x2 A2 e2 r2 => ?_
  refine Calls.spliced_nil ⟨trivial, ?_⟩
  obtain ⟨_, _, _, m1, m2, hv, rfl⟩ := VR.f r2
  rename_i its ad nn
  have hln := hv.length
  refine len_list (s := { s with heap := h2', toks := t2 }) (items := its.toArray) ⟨_, A2.N.get m1, rfl, nn, rfl⟩ (by rw [List.size_toArray, ← hln]; omega) ?_
  rw [List.size_toArray, ← hln]
  exact h _ _ _ x2 A2 (e'.trans e2) (.int _ _)
theorem Ex.app {kc : Nat} {L : List AV} (h1 : Ev W b d sc o fr (H.set kc (.list L)) (.obj kc) (H.set kc (.list L))) (h2 : Ev W b d sc e fr (H.set kc (.list L)) v (H.set kc (.list L))) (hk : kc < H.length) (hl : L.length ≤ 100000)
    (hbase : ∀ env, attributeBase o "append" env (eval o env) = eval o env)
    (hfew : ∀ env, ((backTo p (starEach [e] env)).all (fun x => !x.1) && (backToKw p (keywordEach [] env)).all (fun x => x.1.isSome)
      && decide (([e] : List PySem.Expr).length + ([] : List Keyword).length + (if ([] : List Keyword).isEmpty then 0 else 1) < 30)) = true)
    (hline : (ap.endLine == p.line) = true) (htrees : ∀ env, backTo p (starEach [e] env) = [(false, eval e env)]) (hi : ∀ env, env.scope = sc → interactive env = false) (hs : ∀ env, env.scope = sc → swapsWith (.Call (.Attribute o "append" ap) [e] [] p) Option.none p2.line env = pure false) :
    Ex W b d sc (.Expr (.Call (.Attribute o "append" ap) [e] [] p) p2) fr (H.set kc (.list L)) .next fr (H.set kc (.list (L ++ [v]))) :=
  Ex.expr (Ev.appendE h1 h2 (List.getElem?_set_self hk) (List.getElem?_set_self hk) hl hbase hfew hline htrees (by rw [List.set_set])) hi hs
end
noncomputable def tryV (n : Nat) (st : Int) (k : Nat) : AV :=
  if k = 0 then .tup [.str "try", .int (st + n + 2 * (0 + (k : Nat))), .int 1] else if (k : Int) < n - 1 then .tup [.str "retry", .int (st + n + 2 * (0 + (k : Nat)))] else .tup [.str "trust", .int (st + n + 2 * (0 + (k : Nat)))]
noncomputable def conV (w : Int) : List AV := [.tup [.str "get_constant", .tup [.int 5, .int w], .tup [.str "x", .int 1]], .tup [.str "proceed"]]
noncomputable def factsV (st : Int) (G : List Int) : List AV := (if 1 < G.length then (List.range' 0 G.length).map (tryV G.length st) else []) ++ G.flatMap conV
noncomputable abbrev faNs : List Str := [Str.ofString "code", Str.ofString "worths", Str.ofString "count", Str.ofString "start", Str.ofString "spot", Str.ofString "place", Str.ofString "worth"]
noncomputable def faSc : Scope := match f__law_facts with
  | .FunctionDef _ _ _ _ _ _ scope _ _ _ => scope
  | _ => default
noncomputable def faB1 : List PySem.Stmt := match f__law_facts with
  | .FunctionDef _ _ (_ :: _ :: .If _ (.For _ _ b _ _ :: _) _ _ :: _) _ _ _ _ _ _ _ => b
  | _ => []
noncomputable def faB2 : List PySem.Stmt := match f__law_facts with
  | .FunctionDef _ _ (_ :: _ :: _ :: .For _ _ b _ _ :: _) _ _ _ _ _ _ _ => b
  | _ => []
section
variable {S : St0} {d : Nat} {H : Hp}
theorem fa_loop1 {kc n : Nat} {G : List Int} {st : Int} {ow : Option AV} (hk : kc < H.length) (hn : n ≤ 20) : ∀ (j k : Nat) (L : List AV) (os op : Option AV), k + j = n → L.length + j ≤ 1000 →
    ∃ os' op', FT S.W true (d + 1) faSc (Str.ofString "spot") faB1 ((List.range' k j).map fun i => .int (0 + (i : Nat))) (faNs, [some (.obj kc), some (.fl (G.map .int)), some (.int n), some (.int st), os, op, ow]) (H.set kc (.list L)) .next
      (faNs, [some (.obj kc), some (.fl (G.map .int)), some (.int n), some (.int st), os', op', ow]) (H.set kc (.list (L ++ (List.range' k j).map (tryV n st))))
  | 0, k, L, os, op, _, _ => ⟨os, op, by simpa using FT.done⟩
  | j + 1, k, L, os, op, hkj, hl => by
    obtain ⟨os', op', ih⟩ := fa_loop1 hk hn j (k + 1) (L ++ [tryV n st k]) (some (.int (0 + (k : Nat)))) (some (.int (st + n + 2 * (0 + (k : Nat))))) (by omega) (by rw [List.length_append, List.length_singleton]; omega)
    rw [List.append_assoc] at ih
    refine ⟨os', op', FT.turn (v := .int (0 + (k : Nat))) (.s (.s (.s (.s .z)))) ?_ ih⟩
    refine' Exs.next (H₁ := H.set kc (.list L)) (fr₁ := (faNs, [some (.obj kc), some (.fl (G.map .int)), some (.int n), some (.int st), some (.int (0 + (k : Nat))), some (.int (st + n + 2 * (0 + (k : Nat)))), ow])) (Ex.assign (v := .int (st + n + 2 * (0 + (k : Nat)))) ?zv (.s (.s (.s (.s (.s .z))))) (by kernel_rfl) (fun _ _ => rfl)) ?zk
    case zv =>
      exact Ev.add (Ev.add (Ev.ofLocal (v := .int st) (.s (.s (.s .z))) (by kernel_rfl) (by kernel_rfl)) (Ev.ofLocal (v := .int n) (.s (.s .z)) (by kernel_rfl) (by kernel_rfl))) (Ev.mul Ev.int (Ev.ofLocal (v := .int (0 + (k : Nat))) (.s (.s (.s (.s .z)))) (by kernel_rfl) (by kernel_rfl)) (by decide) (by decide) (by omega) (by omega))
    case zk =>
    refine' Exs.next (H₁ := H.set kc (.list (L ++ [tryV n st k]))) (Ex.app (v := tryV n st k) (Ev.ofLocal (v := .obj kc) .z (by kernel_rfl) (by kernel_rfl)) ?ze hk (by omega) (fun _ => rfl) (fun _ => rfl) rfl (fun _ => rfl) (fun _ q => by unfold interactive; rw [q]; rfl) (fun _ _ => rfl)) Exs.nil
    case ze =>
      by_cases c : k = 0
      · have e : tryV n st k = .tup [.str "try", .int (st + n + 2 * (0 + (k : Nat))), .int 1] := by unfold tryV; rw [if_pos c]
        rw [e]
        refine' Ev.ifT (H₁ := H.set kc (.list L)) (Ts.eq (Ts.cmp (v := .int (0 + (k : Nat))) (v' := .int 0) (Ev.ofLocal (.s (.s (.s (.s .z)))) (by kernel_rfl) (by kernel_rfl)) Ev.int CmpR.eqI rfl) (decide_eq_true (by omega)))
          (Ev.tuple (Evs.cons Ev.str (Evs.cons (Ev.ofLocal (v := .int (st + n + 2 * (0 + (k : Nat)))) (.s (.s (.s (.s (.s .z))))) (by kernel_rfl) (by kernel_rfl)) (Evs.cons Ev.int Evs.nil (fun _ => rfl)) (fun _ => rfl)) (fun _ => rfl)) (by show 3 ≤ 1000; decide))
      · refine' Ev.ifF (H₁ := H.set kc (.list L)) (Ts.eq (Ts.cmp (v := .int (0 + (k : Nat))) (v' := .int 0) (Ev.ofLocal (.s (.s (.s (.s .z)))) (by kernel_rfl) (by kernel_rfl)) Ev.int CmpR.eqI rfl) (decide_eq_false (by omega))) ?zf
        case zf =>
        by_cases c2 : (k : Int) < n - 1
        · have e : tryV n st k = .tup [.str "retry", .int (st + n + 2 * (0 + (k : Nat)))] := by unfold tryV; rw [if_neg c, if_pos c2]
          rw [e]
          refine' Ev.tuple (Evs.cons (Ev.ifT (H₁ := H.set kc (.list L)) (Ts.eq (Ts.cmp (v := .int (0 + (k : Nat))) (v' := .int (n - 1)) (Ev.ofLocal (.s (.s (.s (.s .z)))) (by kernel_rfl) (by kernel_rfl)) (Ev.sub (Ev.ofLocal (v := .int n) (.s (.s .z)) (by kernel_rfl) (by kernel_rfl)) Ev.int) CmpR.lt rfl) (decide_eq_true (by omega))) Ev.str) (Evs.cons (Ev.ofLocal (v := .int (st + n + 2 * (0 + (k : Nat)))) (.s (.s (.s (.s (.s .z))))) (by kernel_rfl) (by kernel_rfl)) Evs.nil (fun _ => rfl)) (fun _ => rfl)) (by show 2 ≤ 1000; decide)
        · have e : tryV n st k = .tup [.str "trust", .int (st + n + 2 * (0 + (k : Nat)))] := by unfold tryV; rw [if_neg c, if_neg c2]
          rw [e]
          refine' Ev.tuple (Evs.cons (Ev.ifF (H₁ := H.set kc (.list L)) (Ts.eq (Ts.cmp (v := .int (0 + (k : Nat))) (v' := .int (n - 1)) (Ev.ofLocal (.s (.s (.s (.s .z)))) (by kernel_rfl) (by kernel_rfl)) (Ev.sub (Ev.ofLocal (v := .int n) (.s (.s .z)) (by kernel_rfl) (by kernel_rfl)) Ev.int) CmpR.lt rfl) (decide_eq_false (by omega))) Ev.str) (Evs.cons (Ev.ofLocal (v := .int (st + n + 2 * (0 + (k : Nat)))) (.s (.s (.s (.s (.s .z))))) (by kernel_rfl) (by kernel_rfl)) Evs.nil (fun _ => rfl)) (fun _ => rfl)) (by show 2 ≤ 1000; decide)
theorem fa_loop2 {kc n : Nat} {G0 : List Int} {st : Int} {os op : Option AV} (hk : kc < H.length) : ∀ (G : List Int) (L : List AV) (ow : Option AV), L.length + 2 * G.length ≤ 1000 →
    ∃ ow', FT S.W true (d + 1) faSc (Str.ofString "worth") faB2 (G.map .int) (faNs, [some (.obj kc), some (.fl (G0.map .int)), some (.int n), some (.int st), os, op, ow]) (H.set kc (.list L)) .next
      (faNs, [some (.obj kc), some (.fl (G0.map .int)), some (.int n), some (.int st), os, op, ow']) (H.set kc (.list (L ++ G.flatMap conV)))
  | [], L, ow, _ => ⟨ow, by simpa using FT.done⟩
  | w :: G, L, ow, hl => by
    rw [List.length_cons] at hl
    obtain ⟨ow', ih⟩ := fa_loop2 hk G (L ++ conV w) (some (.int w)) (by rw [List.length_append]; show L.length + 2 + 2 * G.length ≤ 1000; omega)
    rw [List.append_assoc] at ih
    refine ⟨ow', FT.turn (v := .int w) (.s (.s (.s (.s (.s (.s .z)))))) ?_ ih⟩
    refine' Exs.next (H₁ := H.set kc (.list (L ++ [.tup [.str "get_constant", .tup [.int 5, .int w], .tup [.str "x", .int 1]]]))) (Ex.app (Ev.ofLocal (v := .obj kc) .z (by kernel_rfl) (by kernel_rfl)) ?ze hk (by omega) (fun _ => rfl) (fun _ => rfl) rfl (fun _ => rfl) (fun _ q => by unfold interactive; rw [q]; rfl) (fun _ _ => rfl)) ?zk
    case ze =>
      exact Ev.tuple (Evs.cons Ev.str (Evs.cons (Ev.tuple (Evs.cons (ev_INT (by kernel_rfl)) (Evs.cons (Ev.ofLocal (v := .int w) (.s (.s (.s (.s (.s (.s .z)))))) (by kernel_rfl) (by kernel_rfl)) Evs.nil (fun _ => rfl)) (fun _ => rfl)) (by show 2 ≤ 1000; decide)) (Evs.cons (Ev.tuple (Evs.cons Ev.str (Evs.cons Ev.int Evs.nil (fun _ => rfl)) (fun _ => rfl)) (by show 2 ≤ 1000; decide)) Evs.nil (fun _ => rfl)) (fun _ => rfl)) (fun _ => rfl)) (by show 3 ≤ 1000; decide)
    case zk =>
    have e : L ++ conV w = (L ++ [.tup [.str "get_constant", .tup [.int 5, .int w], .tup [.str "x", .int 1]]]) ++ [.tup [.str "proceed"]] := by unfold conV; rw [List.append_assoc]; rfl
    rw [e]
    exact Exs.next (Ex.app (Ev.ofLocal (v := .obj kc) .z (by kernel_rfl) (by kernel_rfl)) (Ev.tuple (Evs.cons Ev.str Evs.nil (fun _ => rfl)) (by show 1 ≤ 1000; decide)) hk (by rw [List.length_append, List.length_singleton]; omega) (fun _ => rfl) (fun _ => rfl) rfl (fun _ => rfl) (fun _ q => by unfold interactive; rw [q]; rfl) (fun _ _ => rfl)) Exs.nil
theorem rangeV_range' (n : Nat) : rangeV 0 n = (List.range' 0 n).map fun i => .int (0 + (i : Nat)) := by
  unfold rangeV
  rw [List.range_eq_range']
theorem facts_ok {kc : Nat} {L : List AV} {G : List Int} (hL : H[kc]? = some (.list L)) (hG : G.length ≤ 20) (hl : L.length ≤ 200) :
    Cl S.W true (d + 3) a__law_facts [.obj kc, .fl (G.map .int)] H (.int L.length) (H.set kc (.list (L ++ factsV L.length G))) := by
  have hk := (List.getElem?_eq_some_iff.mp hL).1
  have h0 : H = H.set kc (.list L) := (set_self hL).symm
  obtain ⟨os1, op1, l1⟩ := fa_loop1 (S := S) (d := d + 1) (H := H) (kc := kc) (n := G.length) (G := G) (st := L.length) (ow := none) hk hG G.length 0 L none none (by omega) (by omega)
  have key : ∀ (os op : Option AV) (L1 : List AV), L1.length + 2 * G.length ≤ 1000 → ∃ ow', FT S.W true (d + 2) faSc (Str.ofString "worth") faB2 (G.map .int) (faNs, [some (.obj kc), some (.fl (G.map .int)), some (.int G.length), some (.int L.length), os, op, none]) (H.set kc (.list L1)) .next (faNs, [some (.obj kc), some (.fl (G.map .int)), some (.int G.length), some (.int L.length), os, op, ow']) (H.set kc (.list (L1 ++ G.flatMap conV))) := fun os op L1 h => fa_loop2 hk G L1 none h
  rw [← rangeV_range'] at l1
  by_cases c : 1 < G.length
  · obtain ⟨ow', l2⟩ := key os1 op1 (L ++ (List.range' 0 G.length).map (tryV G.length L.length)) (by rw [List.length_append, List.length_map, List.length_range']; omega)
    have e : L ++ factsV L.length G = (L ++ (List.range' 0 G.length).map (tryV G.length L.length)) ++ G.flatMap conV := by unfold factsV; rw [if_pos c, List.append_assoc]
    rw [e]
    refine' Cl.ofBody (W := S.W) (ps := [Str.ofString "code", Str.ofString "worths"]) (ls := [Str.ofString "count", Str.ofString "start", Str.ofString "spot", Str.ofString "place", Str.ofString "worth"]) (fl := .ret (.int L.length)) (by exact rfl) (by kernel_rfl) ?bi (by kernel_rfl) rfl (by decide +kernel) (by decide +kernel) rfl rfl rfl ?h rfl
    case bi =>
      intro us hu
      obtain ⟨u0, u1, rfl⟩ := usIs2 hu
      rfl
    case h =>
      dsimp only [startFr, List.map, List.cons_append, List.nil_append]
      refine' Exs.next (H₁ := H) (Ex.assign (v := .int G.length) (Ev.eq (Ev.lenF (ev_len (by kernel_rfl)) (Ev.ofLocal (v := .fl (G.map .int)) (.s .z) (by kernel_rfl) (by kernel_rfl)) (by rw [List.length_map]; omega) (fun _ => rfl)) (by rw [List.length_map])) (.s (.s .z)) (by kernel_rfl) (fun _ _ => rfl)) ?zk1
      case zk1 =>
      refine' Exs.next (H₁ := H) (Ex.assign (v := .int L.length) (Ev.len (ev_len (by kernel_rfl)) (Ev.ofLocal (v := .obj kc) .z (by kernel_rfl) (by kernel_rfl)) hL (by omega) (fun _ => rfl)) (.s (.s (.s .z))) (by kernel_rfl) (fun _ _ => rfl)) ?zk2
      case zk2 =>
      refine' Exs.next (H₁ := H.set kc (.list (L ++ (List.range' 0 G.length).map (tryV G.length L.length)))) (fr₁ := (faNs, [some (.obj kc), some (.fl (G.map .int)), some (.int G.length), some (.int L.length), os1, op1, none])) ?zi ?zk3
      case zi =>
        refine' Ex.ifT (H₁ := H) (Ts.eq (Ts.cmp (v := .int G.length) (v' := .int 1) (Ev.ofLocal (.s (.s .z)) (by kernel_rfl) (by kernel_rfl)) Ev.int CmpR.gt rfl) (decide_eq_true (by omega))) (Exs.next (H₁ := H.set kc (.list (L ++ (List.range' 0 G.length).map (tryV G.length L.length)))) (Ex.forRange1 (n := G.length) (ev_range (by kernel_rfl)) (Ev.ofLocal (v := .int G.length) (.s (.s .z)) (by kernel_rfl) (by kernel_rfl)) (by omega) (by omega) (by omega) ?zl (by kernel_rfl) (fun _ => rfl) (fun _ _ => rfl)) Exs.nil)
        case zl =>
          rw [← h0] at l1
          exact l1
      case zk3 =>
      exact Exs.next (Ex.forList (Ev.ofLocal (v := .fl (G.map .int)) (.s .z) (by kernel_rfl) (by kernel_rfl)) l2 (by kernel_rfl) (fun _ _ => rfl)) (Exs.ret (Ex.ret (Ev.ofLocal (v := .int L.length) (.s (.s (.s .z))) (by kernel_rfl) (by kernel_rfl))))
  · obtain ⟨ow', l2⟩ := key none none L (by omega)
    have e : L ++ factsV L.length G = L ++ G.flatMap conV := by unfold factsV; rw [if_neg c, List.nil_append]
    rw [e]
    rw [← h0] at l2
    refine' Cl.ofBody (W := S.W) (ps := [Str.ofString "code", Str.ofString "worths"]) (ls := [Str.ofString "count", Str.ofString "start", Str.ofString "spot", Str.ofString "place", Str.ofString "worth"]) (fl := .ret (.int L.length)) (by exact rfl) (by kernel_rfl) ?bi (by kernel_rfl) rfl (by decide +kernel) (by decide +kernel) rfl rfl rfl ?h rfl
    case bi =>
      intro us hu
      obtain ⟨u0, u1, rfl⟩ := usIs2 hu
      rfl
    case h =>
      dsimp only [startFr, List.map, List.cons_append, List.nil_append]
      refine' Exs.next (H₁ := H) (Ex.assign (v := .int G.length) (Ev.eq (Ev.lenF (ev_len (by kernel_rfl)) (Ev.ofLocal (v := .fl (G.map .int)) (.s .z) (by kernel_rfl) (by kernel_rfl)) (by rw [List.length_map]; omega) (fun _ => rfl)) (by rw [List.length_map])) (.s (.s .z)) (by kernel_rfl) (fun _ _ => rfl)) ?zk1
      case zk1 =>
      refine' Exs.next (H₁ := H) (Ex.assign (v := .int L.length) (Ev.len (ev_len (by kernel_rfl)) (Ev.ofLocal (v := .obj kc) .z (by kernel_rfl) (by kernel_rfl)) hL (by omega) (fun _ => rfl)) (.s (.s (.s .z))) (by kernel_rfl) (fun _ _ => rfl)) ?zk2
      case zk2 =>
      refine' Exs.next (H₁ := H) (fr₁ := (faNs, [some (.obj kc), some (.fl (G.map .int)), some (.int G.length), some (.int L.length), none, none, none])) (Ex.ifF (H₁ := H) (Ts.eq (Ts.cmp (v := .int G.length) (v' := .int 1) (Ev.ofLocal (.s (.s .z)) (by kernel_rfl) (by kernel_rfl)) Ev.int CmpR.gt rfl) (decide_eq_false (by omega))) Exs.nil) ?zk3
      case zk3 =>
      exact Exs.next (Ex.forList (Ev.ofLocal (v := .fl (G.map .int)) (.s .z) (by kernel_rfl) (by kernel_rfl)) l2 (by kernel_rfl) (fun _ _ => rfl)) (Exs.ret (Ex.ret (Ev.ofLocal (v := .int L.length) (.s (.s (.s .z))) (by kernel_rfl) (by kernel_rfl))))
end
end
local macro_rules | `(tactic| walk_at "IF") => wTab "R Ex.ifF TB EXS"
section
section
variable {S : St0}
theorem push_ok {b : Bool} {d : Nat} {H1 H2 : Hp} {m : Mc} {c : AV} (hl : m.hp.length ≤ 90000) : Cl S.W b (d + 3) a_Cells_push [.obj (H1.length + 1), c] (MH H1 m H2) (.int m.hp.length) (MH H1 (m.w_hp (m.hp ++ [c])) H2) := by
  refine' Cl.eq ?cl ?qr ?qh
  case cl =>
    refine' Cl.ofBody (ps := [Str.ofString "self", Str.ofString "cell"]) (ls := [Str.ofString "address"]) ?f ?cd ?bi ?lo ?n ?nd ?ce ?co ?ge ?k ?h ?r
    case f => exact rfl
    case cd => kernel_rfl
    case bi =>
      intro us hu
      obtain ⟨u0, u1, rfl⟩ := usIs2 hu
      rfl
    case lo => kernel_rfl
    case n => rfl
    case nd => decide +kernel
    case ce => decide +kernel
    case co => rfl
    case ge => rfl
    case k => rfl
    case h =>
      dsimp only [startFr, List.map, List.cons_append, List.nil_append]
      walk_at "DS"
      walk_at "EXS"
    case r => rfl
  case qr => rfl
  case qh => rfl
end
end
local macro_rules | `(tactic| walk_at "CL") => wTab "U push_ok HY"
section
section
variable {S : St0}
theorem new_var_ok {b : Bool} {d : Nat} {H1 H2 : Hp} {m : Mc} (hl : m.hp.length ≤ 90000) : Cl S.W b (d + 5) a_Cells_new_var [.obj (H1.length + 1)] (MH H1 m H2) (.tup [.int 0, .int m.hp.length]) (MH H1 (m.w_hp (m.hp ++ [.tup [.int 0, .int m.hp.length]])) H2) := by
  refine' Cl.eq ?cl ?qr ?qh
  case cl =>
    refine' Cl.ofBody (ps := [Str.ofString "self"]) (ls := [Str.ofString "cell"]) ?f ?cd ?bi ?lo ?n ?nd ?ce ?co ?ge ?k ?h ?r
    case f => exact rfl
    case cd => kernel_rfl
    case bi =>
      intro us hu
      obtain ⟨u0, rfl⟩ := usIs1 hu
      rfl
    case lo => kernel_rfl
    case n => rfl
    case nd => decide +kernel
    case ce => decide +kernel
    case co => rfl
    case ge => rfl
    case k => rfl
    case h =>
      dsimp only [startFr, List.map, List.cons_append, List.nil_append]
      walk_at "DS"
      walk_at "EXS"
    case r => rfl
  case qr => rfl
  case qh => rfl
end
end
local macro_rules | `(tactic| walk_at "CL") => wTab "U new_var_ok HY"
section
section
variable {S : St0}
theorem set_x_one {b : Bool} {d : Nat} {H1 H2 : Hp} {m : Mc} {c : AV} : Cl S.W b (d + 3) a_Areas_set_x [.obj H1.length, .int 1, c] (MH H1 (m.w_xs [voidV]) H2) (.none) (MH H1 (m.w_xs [voidV, c]) H2) := by
  have z1 : ([voidV] : List AV).length = 1 := rfl
  have z2 : ([voidV] ++ [voidV] : List AV).length = 2 := rfl
  have z3 : (([voidV] : List AV).length : Int) ≤ 1 := by decide
  have z4 : ¬ (([voidV] ++ [voidV] : List AV).length : Int) ≤ 1 := by decide
  refine' Cl.eq ?cl ?qr ?qh
  case cl =>
    refine' Cl.ofBody (ps := [Str.ofString "self", Str.ofString "number", Str.ofString "cell"]) (ls := []) ?f ?cd ?bi ?lo ?n ?nd ?ce ?co ?ge ?k ?h ?r
    case f => exact rfl
    case cd => kernel_rfl
    case bi =>
      intro us hu
      obtain ⟨u0, u1, u2, rfl⟩ := usIs3 hu
      rfl
    case lo => kernel_rfl
    case n => rfl
    case nd => decide +kernel
    case ce => decide +kernel
    case co => rfl
    case ge => rfl
    case k => rfl
    case h =>
      dsimp only [startFr, List.map, List.cons_append, List.nil_append]
      walk_at "DS"
      walk_at "EXS"
    case r => rfl
  case qr => rfl
  case qh => rfl
end
end
local macro_rules | `(tactic| walk_at "CL") => wTab "U set_x_one"
local macro_rules | `(tactic| walk_at "FTW") => wTab "X FT.done;R FT.turn PUT EXS +FTW"
section
section
variable {S : St0}
theorem set_args_ok {d : Nat} {H1 H2 : Hp} {m : Mc} {c : AV} : Cl S.W true (d + 5) a_Areas_set_arguments [.obj H1.length, .fl [c]] (MH H1 (m.w_xs [voidV]) H2) (.none) (MH H1 (m.w_xs [voidV, c]) H2) := by
  refine' Cl.eq ?cl ?qr ?qh
  case cl =>
    refine' Cl.ofBody (ps := [Str.ofString "self", Str.ofString "cells"]) (ls := [Str.ofString "number", Str.ofString "cell"]) ?f ?cd ?bi ?lo ?n ?nd ?ce ?co ?ge ?k ?h ?r
    case f => exact rfl
    case cd => kernel_rfl
    case bi =>
      intro us hu
      obtain ⟨u0, u1, rfl⟩ := usIs2 hu
      rfl
    case lo => kernel_rfl
    case n => rfl
    case nd => decide +kernel
    case ce => decide +kernel
    case co => rfl
    case ge => rfl
    case k => rfl
    case h =>
      dsimp only [startFr, List.map, List.cons_append, List.nil_append]
      walk_at "DS"
      walk_at "EXS"
    case r => rfl
  case qr => rfl
  case qh => rfl
end
end
local macro_rules | `(tactic| walk_at "CL") => wTab "U set_args_ok"
section
section
variable {S : St0}
theorem set_args_x {d : Nat} {H1 H2 : Hp} {m : Mc} {c : AV} (hx : m.xs = [voidV]) : Cl S.W true (d + 5) a_Areas_set_arguments [.obj H1.length, .fl [c]] (MH H1 m H2) .none (MH H1 (m.w_xs [voidV, c]) H2) := by
  have e : m = m.w_xs [voidV] := by
    show m = { m with xs := _ }
    rw [← hx]
  have := set_args_ok (S := S) (d := d) (H1 := H1) (H2 := H2) (m := m) (c := c)
  rw [← e] at this
  exact this
end
end
local macro_rules | `(tactic| walk_at "CL") => wTab "U set_args_x HY"
local macro_rules | `(tactic| walk_at "CL") => wTab "U enter_ok A A"
section
section
variable {S : St0}
theorem start_at_ok {d : Nat} {H1 H2 : Hp} {m : Mc} {c : AV} {a : Int} {l : List (Int × AV)} (hc : H1[m.ke]? = some (.idict l)) (hm : ((0 : Int), AV.int a) ∈ l) : Cl S.W true (d + 7) a_Emulator_start_at [.obj H1.length, .int 0, .fl [c]] (MH H1 (m.w_xs [voidV]) H2) (.none) (MH H1 (((((((((((m.w_xs [voidV, c]).w_e (-1)).w_b (-1)).w_hb 0).w_bb 0).w_b0 (-1)).w_cp 1).w_halted false).w_failed false).w_b0 (-1)).w_p a) H2) := by
  have z1 : (-1 : Int) < 0 := by decide
  refine' Cl.eq ?cl ?qr ?qh
  case cl =>
    refine' Cl.ofBody (ps := [Str.ofString "self", Str.ofString "f", Str.ofString "cells"]) (ls := []) ?f ?cd ?bi ?lo ?n ?nd ?ce ?co ?ge ?k ?h ?r
    case f => exact rfl
    case cd => kernel_rfl
    case bi =>
      intro us hu
      obtain ⟨u0, u1, u2, rfl⟩ := usIs3 hu
      rfl
    case lo => kernel_rfl
    case n => rfl
    case nd => decide +kernel
    case ce => decide +kernel
    case co => rfl
    case ge => rfl
    case k => rfl
    case h =>
      dsimp only [startFr, List.map, List.cons_append, List.nil_append]
      walk_at "DS"
      walk_at "EXS"
    case r => rfl
  case qr => rfl
  case qh => rfl
end
end
local macro_rules | `(tactic| walk_at "CL") => wTab "U start_at_ok HY HY"
section
section
variable {S : St0}
theorem choices_ok {b : Bool} {d : Nat} {H1 H2 : Hp} {m : Mc} (h : m.b < 0) : Cl S.W b (d + 3) a_Areas_choices [.obj H1.length] (MH H1 m H2) (.fl []) (MH H1 m H2) := by
  refine' Cl.eq ?cl ?qr ?qh
  case cl =>
    refine' Cl.ofBody (ps := [Str.ofString "self"]) (ls := [Str.ofString "stack", Str.ofString "found", Str.ofString "b"]) ?f ?cd ?bi ?lo ?n ?nd ?ce ?co ?ge ?k ?h ?r
    case f => exact rfl
    case cd => kernel_rfl
    case bi =>
      intro us hu
      obtain ⟨u0, rfl⟩ := usIs1 hu
      rfl
    case lo => kernel_rfl
    case n => rfl
    case nd => decide +kernel
    case ce => decide +kernel
    case co => rfl
    case ge => rfl
    case k => rfl
    case h =>
      dsimp only [startFr, List.map, List.cons_append, List.nil_append]
      walk_at "DS"
      walk_at "EXS"
    case r => rfl
  case qr => rfl
  case qh => rfl
end
end
local macro_rules | `(tactic| walk_at "CL") => wTab "U choices_ok HY"
section
section
variable {S : St0}
noncomputable def ruleV (cuts : Bool) : List AV := [.tup [.str "allocate", .int 2], .tup [.str "get_variable", .tup [.str "y", .int 1], .tup [.str "x", .int 1]], .tup [.str "get_level", .tup [.str "y", .int 2]], .tup [.str "call", .int 1, .int 2]] ++ (if cuts then [.tup [.str "cut_to", .tup [.str "y", .int 2]]] else []) ++ [.tup [.str "put_value", .tup [.str "y", .int 1], .tup [.str "x", .int 1]], .tup [.str "deallocate"], .tup [.str "execute", .int 2]]
theorem rule_true {d : Nat} {H : Hp} {kc : Nat} {L : List AV} (hL : H[kc]? = some (.list L)) (hl : L.length ≤ 200) : Cl S.W true (d + 3) a__law_rule [.obj kc, .bool true] H (.int L.length) (H.set kc (.list (L ++ ruleV true))) := by
  have hk := (List.getElem?_eq_some_iff.mp hL).1
  have h0 : H = H.set kc (.list L) := (set_self hL).symm
  have e : L ++ ruleV true = ((((((((L ++ [.tup [.str "allocate", .int 2]]) ++ [.tup [.str "get_variable", .tup [.str "y", .int 1], .tup [.str "x", .int 1]]]) ++ [.tup [.str "get_level", .tup [.str "y", .int 2]]]) ++ [.tup [.str "call", .int 1, .int 2]]) ++ [.tup [.str "cut_to", .tup [.str "y", .int 2]]]) ++ [.tup [.str "put_value", .tup [.str "y", .int 1], .tup [.str "x", .int 1]]]) ++ [.tup [.str "deallocate"]]) ++ [.tup [.str "execute", .int 2]]) := by simp [ruleV]
  rw [e]
  refine Cl.pre (H := H.set kc (.list L)) ?_ h0.symm
  refine' Cl.ofBody (W := S.W) (ps := [Str.ofString "code", Str.ofString "cuts"]) (ls := [Str.ofString "start"]) (fl := .ret (.int L.length)) (by exact rfl) (by kernel_rfl) ?bi (by kernel_rfl) rfl (by decide +kernel) (by decide +kernel) rfl rfl rfl ?h rfl
  case bi =>
    intro us hu
    obtain ⟨u0, u1, rfl⟩ := usIs2 hu
    rfl
  case h =>
    dsimp only [startFr, List.map, List.cons_append, List.nil_append]
    refine' Exs.next (H₁ := H.set kc (.list L)) (Ex.assign (v := .int L.length) (Ev.len (ev_len (by kernel_rfl)) (Ev.ofLocal (v := .obj kc) .z (by kernel_rfl) (by kernel_rfl)) (List.getElem?_set_self hk) (by omega) (fun _ => rfl)) (.s (.s .z)) (by kernel_rfl) (fun _ _ => rfl)) ?zs
    case zs =>
    refine' Exs.next (H₁ := H.set kc (.list (L ++ [.tup [.str "allocate", .int 2]]))) (Ex.app (L := L) (v := .tup [.str "allocate", .int 2]) (Ev.ofLocal (v := .obj kc) .z (by kernel_rfl) (by kernel_rfl)) (Ev.tuple (Evs.cons Ev.str (Evs.cons Ev.int Evs.nil (fun _ => rfl)) (fun _ => rfl)) (by show 2 ≤ 1000; decide)) hk (by (try simp only [List.length_append, List.length_singleton]); omega) (fun _ => rfl) (fun _ => rfl) rfl (fun _ => rfl) (fun _ q => by unfold interactive; rw [q]; rfl) (fun _ _ => rfl)) ?zk0
    case zk0 =>
    refine' Exs.next (H₁ := H.set kc (.list ((L ++ [.tup [.str "allocate", .int 2]]) ++ [.tup [.str "get_variable", .tup [.str "y", .int 1], .tup [.str "x", .int 1]]]))) (Ex.app (L := (L ++ [.tup [.str "allocate", .int 2]])) (v := .tup [.str "get_variable", .tup [.str "y", .int 1], .tup [.str "x", .int 1]]) (Ev.ofLocal (v := .obj kc) .z (by kernel_rfl) (by kernel_rfl)) (Ev.tuple (Evs.cons Ev.str (Evs.cons (Ev.tuple (Evs.cons Ev.str (Evs.cons Ev.int Evs.nil (fun _ => rfl)) (fun _ => rfl)) (by show 2 ≤ 1000; decide)) (Evs.cons (Ev.tuple (Evs.cons Ev.str (Evs.cons Ev.int Evs.nil (fun _ => rfl)) (fun _ => rfl)) (by show 2 ≤ 1000; decide)) Evs.nil (fun _ => rfl)) (fun _ => rfl)) (fun _ => rfl)) (by show 3 ≤ 1000; decide)) hk (by (try simp only [List.length_append, List.length_singleton]); omega) (fun _ => rfl) (fun _ => rfl) rfl (fun _ => rfl) (fun _ q => by unfold interactive; rw [q]; rfl) (fun _ _ => rfl)) ?zk1
    case zk1 =>
    refine' Exs.next (H₁ := H.set kc (.list (((L ++ [.tup [.str "allocate", .int 2]]) ++ [.tup [.str "get_variable", .tup [.str "y", .int 1], .tup [.str "x", .int 1]]]) ++ [.tup [.str "get_level", .tup [.str "y", .int 2]]]))) (Ex.app (L := ((L ++ [.tup [.str "allocate", .int 2]]) ++ [.tup [.str "get_variable", .tup [.str "y", .int 1], .tup [.str "x", .int 1]]])) (v := .tup [.str "get_level", .tup [.str "y", .int 2]]) (Ev.ofLocal (v := .obj kc) .z (by kernel_rfl) (by kernel_rfl)) (Ev.tuple (Evs.cons Ev.str (Evs.cons (Ev.tuple (Evs.cons Ev.str (Evs.cons Ev.int Evs.nil (fun _ => rfl)) (fun _ => rfl)) (by show 2 ≤ 1000; decide)) Evs.nil (fun _ => rfl)) (fun _ => rfl)) (by show 2 ≤ 1000; decide)) hk (by (try simp only [List.length_append, List.length_singleton]); omega) (fun _ => rfl) (fun _ => rfl) rfl (fun _ => rfl) (fun _ q => by unfold interactive; rw [q]; rfl) (fun _ _ => rfl)) ?zk2
    case zk2 =>
    refine' Exs.next (H₁ := H.set kc (.list ((((L ++ [.tup [.str "allocate", .int 2]]) ++ [.tup [.str "get_variable", .tup [.str "y", .int 1], .tup [.str "x", .int 1]]]) ++ [.tup [.str "get_level", .tup [.str "y", .int 2]]]) ++ [.tup [.str "call", .int 1, .int 2]]))) (Ex.app (L := (((L ++ [.tup [.str "allocate", .int 2]]) ++ [.tup [.str "get_variable", .tup [.str "y", .int 1], .tup [.str "x", .int 1]]]) ++ [.tup [.str "get_level", .tup [.str "y", .int 2]]])) (v := .tup [.str "call", .int 1, .int 2]) (Ev.ofLocal (v := .obj kc) .z (by kernel_rfl) (by kernel_rfl)) (Ev.tuple (Evs.cons Ev.str (Evs.cons Ev.int (Evs.cons Ev.int Evs.nil (fun _ => rfl)) (fun _ => rfl)) (fun _ => rfl)) (by show 3 ≤ 1000; decide)) hk (by (try simp only [List.length_append, List.length_singleton]); omega) (fun _ => rfl) (fun _ => rfl) rfl (fun _ => rfl) (fun _ q => by unfold interactive; rw [q]; rfl) (fun _ _ => rfl)) ?zk3
    case zk3 =>
    refine' Exs.next (H₁ := H.set kc (.list (((((L ++ [.tup [.str "allocate", .int 2]]) ++ [.tup [.str "get_variable", .tup [.str "y", .int 1], .tup [.str "x", .int 1]]]) ++ [.tup [.str "get_level", .tup [.str "y", .int 2]]]) ++ [.tup [.str "call", .int 1, .int 2]]) ++ [.tup [.str "cut_to", .tup [.str "y", .int 2]]]))) (Ex.ifT (H₁ := H.set kc (.list ((((L ++ [.tup [.str "allocate", .int 2]]) ++ [.tup [.str "get_variable", .tup [.str "y", .int 1], .tup [.str "x", .int 1]]]) ++ [.tup [.str "get_level", .tup [.str "y", .int 2]]]) ++ [.tup [.str "call", .int 1, .int 2]]))) (Ts.val (Ev.ofLocal (v := .bool true) (.s .z) (by kernel_rfl) (by kernel_rfl)) (fun _ _ => rfl)) ?zi) ?zj
    case zi =>
      exact Exs.next (H₁ := H.set kc (.list (((((L ++ [.tup [.str "allocate", .int 2]]) ++ [.tup [.str "get_variable", .tup [.str "y", .int 1], .tup [.str "x", .int 1]]]) ++ [.tup [.str "get_level", .tup [.str "y", .int 2]]]) ++ [.tup [.str "call", .int 1, .int 2]]) ++ [.tup [.str "cut_to", .tup [.str "y", .int 2]]]))) (Ex.app (L := ((((L ++ [.tup [.str "allocate", .int 2]]) ++ [.tup [.str "get_variable", .tup [.str "y", .int 1], .tup [.str "x", .int 1]]]) ++ [.tup [.str "get_level", .tup [.str "y", .int 2]]]) ++ [.tup [.str "call", .int 1, .int 2]])) (v := .tup [.str "cut_to", .tup [.str "y", .int 2]]) (Ev.ofLocal (v := .obj kc) .z (by kernel_rfl) (by kernel_rfl)) (Ev.tuple (Evs.cons Ev.str (Evs.cons (Ev.tuple (Evs.cons Ev.str (Evs.cons Ev.int Evs.nil (fun _ => rfl)) (fun _ => rfl)) (by show 2 ≤ 1000; decide)) Evs.nil (fun _ => rfl)) (fun _ => rfl)) (by show 2 ≤ 1000; decide)) hk (by (try simp only [List.length_append, List.length_singleton]); omega) (fun _ => rfl) (fun _ => rfl) rfl (fun _ => rfl) (fun _ q => by unfold interactive; rw [q]; rfl) (fun _ _ => rfl)) Exs.nil
    case zj =>
    refine' Exs.next (H₁ := H.set kc (.list ((((((L ++ [.tup [.str "allocate", .int 2]]) ++ [.tup [.str "get_variable", .tup [.str "y", .int 1], .tup [.str "x", .int 1]]]) ++ [.tup [.str "get_level", .tup [.str "y", .int 2]]]) ++ [.tup [.str "call", .int 1, .int 2]]) ++ [.tup [.str "cut_to", .tup [.str "y", .int 2]]]) ++ [.tup [.str "put_value", .tup [.str "y", .int 1], .tup [.str "x", .int 1]]]))) (Ex.app (L := (((((L ++ [.tup [.str "allocate", .int 2]]) ++ [.tup [.str "get_variable", .tup [.str "y", .int 1], .tup [.str "x", .int 1]]]) ++ [.tup [.str "get_level", .tup [.str "y", .int 2]]]) ++ [.tup [.str "call", .int 1, .int 2]]) ++ [.tup [.str "cut_to", .tup [.str "y", .int 2]]])) (v := .tup [.str "put_value", .tup [.str "y", .int 1], .tup [.str "x", .int 1]]) (Ev.ofLocal (v := .obj kc) .z (by kernel_rfl) (by kernel_rfl)) (Ev.tuple (Evs.cons Ev.str (Evs.cons (Ev.tuple (Evs.cons Ev.str (Evs.cons Ev.int Evs.nil (fun _ => rfl)) (fun _ => rfl)) (by show 2 ≤ 1000; decide)) (Evs.cons (Ev.tuple (Evs.cons Ev.str (Evs.cons Ev.int Evs.nil (fun _ => rfl)) (fun _ => rfl)) (by show 2 ≤ 1000; decide)) Evs.nil (fun _ => rfl)) (fun _ => rfl)) (fun _ => rfl)) (by show 3 ≤ 1000; decide)) hk (by (try simp only [List.length_append, List.length_singleton]); omega) (fun _ => rfl) (fun _ => rfl) rfl (fun _ => rfl) (fun _ q => by unfold interactive; rw [q]; rfl) (fun _ _ => rfl)) ?zk4
    case zk4 =>
    refine' Exs.next (H₁ := H.set kc (.list (((((((L ++ [.tup [.str "allocate", .int 2]]) ++ [.tup [.str "get_variable", .tup [.str "y", .int 1], .tup [.str "x", .int 1]]]) ++ [.tup [.str "get_level", .tup [.str "y", .int 2]]]) ++ [.tup [.str "call", .int 1, .int 2]]) ++ [.tup [.str "cut_to", .tup [.str "y", .int 2]]]) ++ [.tup [.str "put_value", .tup [.str "y", .int 1], .tup [.str "x", .int 1]]]) ++ [.tup [.str "deallocate"]]))) (Ex.app (L := ((((((L ++ [.tup [.str "allocate", .int 2]]) ++ [.tup [.str "get_variable", .tup [.str "y", .int 1], .tup [.str "x", .int 1]]]) ++ [.tup [.str "get_level", .tup [.str "y", .int 2]]]) ++ [.tup [.str "call", .int 1, .int 2]]) ++ [.tup [.str "cut_to", .tup [.str "y", .int 2]]]) ++ [.tup [.str "put_value", .tup [.str "y", .int 1], .tup [.str "x", .int 1]]])) (v := .tup [.str "deallocate"]) (Ev.ofLocal (v := .obj kc) .z (by kernel_rfl) (by kernel_rfl)) (Ev.tuple (Evs.cons Ev.str Evs.nil (fun _ => rfl)) (by show 1 ≤ 1000; decide)) hk (by (try simp only [List.length_append, List.length_singleton]); omega) (fun _ => rfl) (fun _ => rfl) rfl (fun _ => rfl) (fun _ q => by unfold interactive; rw [q]; rfl) (fun _ _ => rfl)) ?zk5
    case zk5 =>
    refine' Exs.next (H₁ := H.set kc (.list ((((((((L ++ [.tup [.str "allocate", .int 2]]) ++ [.tup [.str "get_variable", .tup [.str "y", .int 1], .tup [.str "x", .int 1]]]) ++ [.tup [.str "get_level", .tup [.str "y", .int 2]]]) ++ [.tup [.str "call", .int 1, .int 2]]) ++ [.tup [.str "cut_to", .tup [.str "y", .int 2]]]) ++ [.tup [.str "put_value", .tup [.str "y", .int 1], .tup [.str "x", .int 1]]]) ++ [.tup [.str "deallocate"]]) ++ [.tup [.str "execute", .int 2]]))) (Ex.app (L := (((((((L ++ [.tup [.str "allocate", .int 2]]) ++ [.tup [.str "get_variable", .tup [.str "y", .int 1], .tup [.str "x", .int 1]]]) ++ [.tup [.str "get_level", .tup [.str "y", .int 2]]]) ++ [.tup [.str "call", .int 1, .int 2]]) ++ [.tup [.str "cut_to", .tup [.str "y", .int 2]]]) ++ [.tup [.str "put_value", .tup [.str "y", .int 1], .tup [.str "x", .int 1]]]) ++ [.tup [.str "deallocate"]])) (v := .tup [.str "execute", .int 2]) (Ev.ofLocal (v := .obj kc) .z (by kernel_rfl) (by kernel_rfl)) (Ev.tuple (Evs.cons Ev.str (Evs.cons Ev.int Evs.nil (fun _ => rfl)) (fun _ => rfl)) (by show 2 ≤ 1000; decide)) hk (by (try simp only [List.length_append, List.length_singleton]); omega) (fun _ => rfl) (fun _ => rfl) rfl (fun _ => rfl) (fun _ q => by unfold interactive; rw [q]; rfl) (fun _ _ => rfl)) ?zk6
    case zk6 =>
    exact Exs.ret (Ex.ret (Ev.ofLocal (v := .int L.length) (.s (.s .z)) (by kernel_rfl) (by kernel_rfl)))
theorem rule_false {d : Nat} {H : Hp} {kc : Nat} {L : List AV} (hL : H[kc]? = some (.list L)) (hl : L.length ≤ 200) : Cl S.W true (d + 3) a__law_rule [.obj kc, .bool false] H (.int L.length) (H.set kc (.list (L ++ ruleV false))) := by
  have hk := (List.getElem?_eq_some_iff.mp hL).1
  have h0 : H = H.set kc (.list L) := (set_self hL).symm
  have e : L ++ ruleV false = (((((((L ++ [.tup [.str "allocate", .int 2]]) ++ [.tup [.str "get_variable", .tup [.str "y", .int 1], .tup [.str "x", .int 1]]]) ++ [.tup [.str "get_level", .tup [.str "y", .int 2]]]) ++ [.tup [.str "call", .int 1, .int 2]]) ++ [.tup [.str "put_value", .tup [.str "y", .int 1], .tup [.str "x", .int 1]]]) ++ [.tup [.str "deallocate"]]) ++ [.tup [.str "execute", .int 2]]) := by simp [ruleV]
  rw [e]
  refine Cl.pre (H := H.set kc (.list L)) ?_ h0.symm
  refine' Cl.ofBody (W := S.W) (ps := [Str.ofString "code", Str.ofString "cuts"]) (ls := [Str.ofString "start"]) (fl := .ret (.int L.length)) (by exact rfl) (by kernel_rfl) ?bi (by kernel_rfl) rfl (by decide +kernel) (by decide +kernel) rfl rfl rfl ?h rfl
  case bi =>
    intro us hu
    obtain ⟨u0, u1, rfl⟩ := usIs2 hu
    rfl
  case h =>
    dsimp only [startFr, List.map, List.cons_append, List.nil_append]
    refine' Exs.next (H₁ := H.set kc (.list L)) (Ex.assign (v := .int L.length) (Ev.len (ev_len (by kernel_rfl)) (Ev.ofLocal (v := .obj kc) .z (by kernel_rfl) (by kernel_rfl)) (List.getElem?_set_self hk) (by omega) (fun _ => rfl)) (.s (.s .z)) (by kernel_rfl) (fun _ _ => rfl)) ?zs
    case zs =>
    refine' Exs.next (H₁ := H.set kc (.list (L ++ [.tup [.str "allocate", .int 2]]))) (Ex.app (L := L) (v := .tup [.str "allocate", .int 2]) (Ev.ofLocal (v := .obj kc) .z (by kernel_rfl) (by kernel_rfl)) (Ev.tuple (Evs.cons Ev.str (Evs.cons Ev.int Evs.nil (fun _ => rfl)) (fun _ => rfl)) (by show 2 ≤ 1000; decide)) hk (by (try simp only [List.length_append, List.length_singleton]); omega) (fun _ => rfl) (fun _ => rfl) rfl (fun _ => rfl) (fun _ q => by unfold interactive; rw [q]; rfl) (fun _ _ => rfl)) ?zk0
    case zk0 =>
    refine' Exs.next (H₁ := H.set kc (.list ((L ++ [.tup [.str "allocate", .int 2]]) ++ [.tup [.str "get_variable", .tup [.str "y", .int 1], .tup [.str "x", .int 1]]]))) (Ex.app (L := (L ++ [.tup [.str "allocate", .int 2]])) (v := .tup [.str "get_variable", .tup [.str "y", .int 1], .tup [.str "x", .int 1]]) (Ev.ofLocal (v := .obj kc) .z (by kernel_rfl) (by kernel_rfl)) (Ev.tuple (Evs.cons Ev.str (Evs.cons (Ev.tuple (Evs.cons Ev.str (Evs.cons Ev.int Evs.nil (fun _ => rfl)) (fun _ => rfl)) (by show 2 ≤ 1000; decide)) (Evs.cons (Ev.tuple (Evs.cons Ev.str (Evs.cons Ev.int Evs.nil (fun _ => rfl)) (fun _ => rfl)) (by show 2 ≤ 1000; decide)) Evs.nil (fun _ => rfl)) (fun _ => rfl)) (fun _ => rfl)) (by show 3 ≤ 1000; decide)) hk (by (try simp only [List.length_append, List.length_singleton]); omega) (fun _ => rfl) (fun _ => rfl) rfl (fun _ => rfl) (fun _ q => by unfold interactive; rw [q]; rfl) (fun _ _ => rfl)) ?zk1
    case zk1 =>
    refine' Exs.next (H₁ := H.set kc (.list (((L ++ [.tup [.str "allocate", .int 2]]) ++ [.tup [.str "get_variable", .tup [.str "y", .int 1], .tup [.str "x", .int 1]]]) ++ [.tup [.str "get_level", .tup [.str "y", .int 2]]]))) (Ex.app (L := ((L ++ [.tup [.str "allocate", .int 2]]) ++ [.tup [.str "get_variable", .tup [.str "y", .int 1], .tup [.str "x", .int 1]]])) (v := .tup [.str "get_level", .tup [.str "y", .int 2]]) (Ev.ofLocal (v := .obj kc) .z (by kernel_rfl) (by kernel_rfl)) (Ev.tuple (Evs.cons Ev.str (Evs.cons (Ev.tuple (Evs.cons Ev.str (Evs.cons Ev.int Evs.nil (fun _ => rfl)) (fun _ => rfl)) (by show 2 ≤ 1000; decide)) Evs.nil (fun _ => rfl)) (fun _ => rfl)) (by show 2 ≤ 1000; decide)) hk (by (try simp only [List.length_append, List.length_singleton]); omega) (fun _ => rfl) (fun _ => rfl) rfl (fun _ => rfl) (fun _ q => by unfold interactive; rw [q]; rfl) (fun _ _ => rfl)) ?zk2
    case zk2 =>
    refine' Exs.next (H₁ := H.set kc (.list ((((L ++ [.tup [.str "allocate", .int 2]]) ++ [.tup [.str "get_variable", .tup [.str "y", .int 1], .tup [.str "x", .int 1]]]) ++ [.tup [.str "get_level", .tup [.str "y", .int 2]]]) ++ [.tup [.str "call", .int 1, .int 2]]))) (Ex.app (L := (((L ++ [.tup [.str "allocate", .int 2]]) ++ [.tup [.str "get_variable", .tup [.str "y", .int 1], .tup [.str "x", .int 1]]]) ++ [.tup [.str "get_level", .tup [.str "y", .int 2]]])) (v := .tup [.str "call", .int 1, .int 2]) (Ev.ofLocal (v := .obj kc) .z (by kernel_rfl) (by kernel_rfl)) (Ev.tuple (Evs.cons Ev.str (Evs.cons Ev.int (Evs.cons Ev.int Evs.nil (fun _ => rfl)) (fun _ => rfl)) (fun _ => rfl)) (by show 3 ≤ 1000; decide)) hk (by (try simp only [List.length_append, List.length_singleton]); omega) (fun _ => rfl) (fun _ => rfl) rfl (fun _ => rfl) (fun _ q => by unfold interactive; rw [q]; rfl) (fun _ _ => rfl)) ?zk3
    case zk3 =>
    refine' Exs.next (H₁ := H.set kc (.list ((((L ++ [.tup [.str "allocate", .int 2]]) ++ [.tup [.str "get_variable", .tup [.str "y", .int 1], .tup [.str "x", .int 1]]]) ++ [.tup [.str "get_level", .tup [.str "y", .int 2]]]) ++ [.tup [.str "call", .int 1, .int 2]]))) (Ex.ifF (H₁ := H.set kc (.list ((((L ++ [.tup [.str "allocate", .int 2]]) ++ [.tup [.str "get_variable", .tup [.str "y", .int 1], .tup [.str "x", .int 1]]]) ++ [.tup [.str "get_level", .tup [.str "y", .int 2]]]) ++ [.tup [.str "call", .int 1, .int 2]]))) (Ts.val (Ev.ofLocal (v := .bool false) (.s .z) (by kernel_rfl) (by kernel_rfl)) (fun _ _ => rfl)) Exs.nil) ?zj
    case zj =>
    refine' Exs.next (H₁ := H.set kc (.list (((((L ++ [.tup [.str "allocate", .int 2]]) ++ [.tup [.str "get_variable", .tup [.str "y", .int 1], .tup [.str "x", .int 1]]]) ++ [.tup [.str "get_level", .tup [.str "y", .int 2]]]) ++ [.tup [.str "call", .int 1, .int 2]]) ++ [.tup [.str "put_value", .tup [.str "y", .int 1], .tup [.str "x", .int 1]]]))) (Ex.app (L := ((((L ++ [.tup [.str "allocate", .int 2]]) ++ [.tup [.str "get_variable", .tup [.str "y", .int 1], .tup [.str "x", .int 1]]]) ++ [.tup [.str "get_level", .tup [.str "y", .int 2]]]) ++ [.tup [.str "call", .int 1, .int 2]])) (v := .tup [.str "put_value", .tup [.str "y", .int 1], .tup [.str "x", .int 1]]) (Ev.ofLocal (v := .obj kc) .z (by kernel_rfl) (by kernel_rfl)) (Ev.tuple (Evs.cons Ev.str (Evs.cons (Ev.tuple (Evs.cons Ev.str (Evs.cons Ev.int Evs.nil (fun _ => rfl)) (fun _ => rfl)) (by show 2 ≤ 1000; decide)) (Evs.cons (Ev.tuple (Evs.cons Ev.str (Evs.cons Ev.int Evs.nil (fun _ => rfl)) (fun _ => rfl)) (by show 2 ≤ 1000; decide)) Evs.nil (fun _ => rfl)) (fun _ => rfl)) (fun _ => rfl)) (by show 3 ≤ 1000; decide)) hk (by (try simp only [List.length_append, List.length_singleton]); omega) (fun _ => rfl) (fun _ => rfl) rfl (fun _ => rfl) (fun _ q => by unfold interactive; rw [q]; rfl) (fun _ _ => rfl)) ?zk4
    case zk4 =>
    refine' Exs.next (H₁ := H.set kc (.list ((((((L ++ [.tup [.str "allocate", .int 2]]) ++ [.tup [.str "get_variable", .tup [.str "y", .int 1], .tup [.str "x", .int 1]]]) ++ [.tup [.str "get_level", .tup [.str "y", .int 2]]]) ++ [.tup [.str "call", .int 1, .int 2]]) ++ [.tup [.str "put_value", .tup [.str "y", .int 1], .tup [.str "x", .int 1]]]) ++ [.tup [.str "deallocate"]]))) (Ex.app (L := (((((L ++ [.tup [.str "allocate", .int 2]]) ++ [.tup [.str "get_variable", .tup [.str "y", .int 1], .tup [.str "x", .int 1]]]) ++ [.tup [.str "get_level", .tup [.str "y", .int 2]]]) ++ [.tup [.str "call", .int 1, .int 2]]) ++ [.tup [.str "put_value", .tup [.str "y", .int 1], .tup [.str "x", .int 1]]])) (v := .tup [.str "deallocate"]) (Ev.ofLocal (v := .obj kc) .z (by kernel_rfl) (by kernel_rfl)) (Ev.tuple (Evs.cons Ev.str Evs.nil (fun _ => rfl)) (by show 1 ≤ 1000; decide)) hk (by (try simp only [List.length_append, List.length_singleton]); omega) (fun _ => rfl) (fun _ => rfl) rfl (fun _ => rfl) (fun _ q => by unfold interactive; rw [q]; rfl) (fun _ _ => rfl)) ?zk5
    case zk5 =>
    refine' Exs.next (H₁ := H.set kc (.list (((((((L ++ [.tup [.str "allocate", .int 2]]) ++ [.tup [.str "get_variable", .tup [.str "y", .int 1], .tup [.str "x", .int 1]]]) ++ [.tup [.str "get_level", .tup [.str "y", .int 2]]]) ++ [.tup [.str "call", .int 1, .int 2]]) ++ [.tup [.str "put_value", .tup [.str "y", .int 1], .tup [.str "x", .int 1]]]) ++ [.tup [.str "deallocate"]]) ++ [.tup [.str "execute", .int 2]]))) (Ex.app (L := ((((((L ++ [.tup [.str "allocate", .int 2]]) ++ [.tup [.str "get_variable", .tup [.str "y", .int 1], .tup [.str "x", .int 1]]]) ++ [.tup [.str "get_level", .tup [.str "y", .int 2]]]) ++ [.tup [.str "call", .int 1, .int 2]]) ++ [.tup [.str "put_value", .tup [.str "y", .int 1], .tup [.str "x", .int 1]]]) ++ [.tup [.str "deallocate"]])) (v := .tup [.str "execute", .int 2]) (Ev.ofLocal (v := .obj kc) .z (by kernel_rfl) (by kernel_rfl)) (Ev.tuple (Evs.cons Ev.str (Evs.cons Ev.int Evs.nil (fun _ => rfl)) (fun _ => rfl)) (by show 2 ≤ 1000; decide)) hk (by (try simp only [List.length_append, List.length_singleton]); omega) (fun _ => rfl) (fun _ => rfl) rfl (fun _ => rfl) (fun _ q => by unfold interactive; rw [q]; rfl) (fun _ _ => rfl)) ?zk6
    case zk6 =>
    exact Exs.ret (Ex.ret (Ev.ofLocal (v := .int L.length) (.s (.s .z)) (by kernel_rfl) (by kernel_rfl)))
theorem rule_ok {d : Nat} {H : Hp} {kc : Nat} {L : List AV} {cuts : Bool} (hL : H[kc]? = some (.list L)) (hl : L.length ≤ 200) : Cl S.W true (d + 3) a__law_rule [.obj kc, .bool cuts] H (.int L.length) (H.set kc (.list (L ++ ruleV cuts))) := by
  cases cuts
  · exact rule_false hL hl
  · exact rule_true hL hl
end
end
end
section
open PySem PySem.W PyProof.Rows PySem.Calls PySem.Spec
section
variable {W : Wd} {b : Bool} {d : Nat} {sc : Scope} {fr fr' : Fr2} {H H₁ H₂ H₃ H₄ : Hp} {v v' : AV} {e e' : PySem.Expr} {p : Pos} {fl : Fl}
theorem CxOk.dn {c : Cx} (O : CxOk W b (d + 1) sc c) : CxOk W b d sc c := ⟨O.B, O.hA, O.hk, O.XB, O.TB, (by have := O.dep; omega), (by have := O.un; omega), O.hh, O.lc, O.d1, O.tp, O.lc2⟩
theorem Cl.up {f : Addr} {as : List AV} (h : Cl W b d f as H v H₁) : Cl W b (d + 1) f as H v H₁ := fun sc c O => h sc c O.dn
theorem CmpR.neB {i j : Bool} : CmpR W .NotEq (.bool i) (.bool j) (i != j) := by
  intro c s m H x u u' Q E X hu A r r' h
  cases r; cases r'
  exact ne_bool (h s.toks)
theorem CmpR.neT {i j i' j' : Int} : CmpR W .NotEq (.tup [.int i, .int j]) (.tup [.int i', .int j']) (!(i == i' && j == j')) := by
  intro c s m H x u u' Q E X hu A r r' h
  obtain ⟨a, t1, t2, n, rfl, g⟩ := tup2 A X r
  obtain ⟨a', t1', t2', n', rfl, g'⟩ := tup2 A X r'
  have key := PySem.SeqAt.RcNeAt.tuples (s := s) (A := c.A) (e := pe (i == i') (j == j')) ⟨_, g, rfl, n, rfl⟩ ⟨_, g', rfl, n', rfl⟩ (by show c.A.units < 9900; omega) (by
    intro z h1 h2
    match z, h1, h2 with
    | 0, _, _ => exact PySem.SeqAt.EqAt.int_int _ _ _ _
    | 1, _, _ => exact PySem.SeqAt.EqAt.int_int _ _ _ _)
  refine key W.prog W.w E Q ?_
  show Q (.bool (!((List.range (min 2 2)).all (pe (i == i') (j == j')) && (2 : Nat) == 2))) s
  rw [pe_all]
  exact h s.toks
theorem CmpR.eqNil : CmpR W .Eq (.fl []) (.fl []) true := by
  intro c s m H x u u' Q E X hu A r r' h
  obtain ⟨_, _, _, m1, m2, hv, rfl⟩ := VR.f r
  obtain ⟨_, _, _, m3, m4, hv', rfl⟩ := VR.f r'
  cases hv; cases hv'
  exact PySem.SeqAt.eq_listAt (e := fun _ => true) ⟨_, A.N.get m1, rfl, _, rfl⟩ ⟨_, A.N.get m3, rfl, _, rfl⟩ rfl (by show c.A.units < 9900; omega) (fun j h1 _ => by simp at h1) (h s.toks)
theorem Ts.orC {l r : PySem.Expr} {rs : List PySem.Expr} {t : Bool} (h1 : Ts W b d sc l fr H false H₁) (h2 : Ts W b d sc (.BoolOp .Or (r :: rs) p) fr H₁ t H₂) : Ts W b d sc (.BoolOp .Or (l :: r :: rs) p) fr H t H₂ := by
  intro c O s m x A F Q E h
  refine wpAny_isTrue_BoolOp (wpAny_allTrue_Or_cons ?_)
  refine h1 c O s m x A F _ _ fun h' t' x' A' e' => ?_
  rw [if_neg (by decide)]
  have q := h2 c O { s with heap := h', toks := t' } m x' A' (F.mono e') Q E fun h2' t2 x2 A2 e2 => h _ _ x2 A2 (e'.trans e2)
  rw [arm_isTrue_BoolOp] at q
  exact q
theorem Ts.andF {l : PySem.Expr} {rs : List PySem.Expr} (h1 : Ts W b d sc l fr H false H₁) : Ts W b d sc (.BoolOp .And (l :: rs) p) fr H false H₁ := by
  intro c O s m x A F Q E h
  refine wpAny_isTrue_BoolOp (wpAny_allTrue_And_cons ?_)
  refine h1 c O s m x A F _ _ fun h' t' x' A' e' => ?_
  rw [if_neg (by decide)]
  exact h _ _ x' A' e'
theorem Ts.andT {l r : PySem.Expr} {t : Bool} (h1 : Ts W b d sc l fr H true H₁) (h2 : Ts W b d sc r fr H₁ t H₂) : Ts W b d sc (.BoolOp .And [l, r] p) fr H t H₂ := by
  intro c O s m x A F Q E h
  refine wpAny_isTrue_BoolOp (wpAny_allTrue_And_cons ?_)
  refine h1 c O s m x A F _ _ fun h' t' x' A' e' => ?_
  rw [if_pos rfl]
  refine wpAny_allTrue_And_cons ?_
  refine h2 c O _ m x' A' (F.mono e') _ _ fun h2' t2 x2 A2 e2 => ?_
  cases t
  · exact h _ _ x2 A2 (e'.trans e2)
  · exact wpAny_allTrue_And_nil (h _ _ x2 A2 (e'.trans e2))
theorem Ev.andT {l r : PySem.Expr} {t : Bool} (h1 : Ev W b d sc l fr H (.bool true) H₁) (h2 : Ev W b d sc r fr H₁ (.bool t) H₂) : Ev W b d sc (.BoolOp .And [l, r] p) fr H (.bool t) H₂ := by
  intro c O s m x A F Q E h
  refine BoolOp_and (h1 c O s m x A F _ _ fun u h' t' x' A' e' r' => ?_)
  first | obtain rfl := VR.v r' | obtain ⟨_, rfl⟩ := VR.i r' | obtain rfl := VR.t r' | obtain rfl := VR.n r' | obtain ⟨_, rfl⟩ := VR.s r' | cases r'
  refine wpAny_truthy_bool ?_
  rw [if_pos rfl]
  refine BoolOp_one ?_
  exact h2 c O _ m x' A' (F.mono e') _ _ fun u2 h2' t2 x2 A2 e2 r2 => h _ _ _ x2 A2 (e'.trans e2) r2
theorem Ev.catNew {l r : PySem.Expr} {l1 l2 : List AV} {k : Nat} (h1 : Ev W b d sc l fr H (.fl l1) H₁) (h2 : Ev W b d sc r fr H₁ (.fl l2) H₂) (hl : l1.length + l2.length ≤ 1000) (hk : H₂.length = k) : Ev W b d sc (.BinOp l .Add r p) fr H (.obj k) (H₂ ++ [.list (l1 ++ l2)]) := by
  subst hk
  intro c O s m x A F Q E h
  refine wpAny_BinOp (h1 c O s m x A F _ _ fun u h' t' x' A' e' r' => ?_)
  refine h2 c O _ m x' A' (F.mono e') _ _ fun u2 h2' t2 x2 A2 e2 r2 => ?_
  obtain ⟨_, _, _, m1, m2, hv, rfl⟩ := VR.f r'
  obtain ⟨_, _, _, m3, m4, hv2, rfl⟩ := VR.f r2
  rename_i its1 a1 n1 its2 a2 n2
  have m5 := e2.led _ m1 m2
  refine add_lists (s := { s with heap := h2', toks := t2 }) A2.F A2.N (vs := its1) (ws := its2) ⟨_, A2.N.get m5, rfl, _, rfl⟩ ⟨_, A2.N.get m3, rfl, _, rfl⟩ (fun h3 F3 N3 => ?_) (by rw [← hv.length, ← hv2.length, sizeLine_eq]; omega)
  have fk := fresh_key A2
  have hn : ∀ a ∈ [((h2'.objs.size : Addr), lstO (its1 ++ its2) 0)].map (·.1), a ∉ x2.led.map (·.1) := fun a ha => by
    cases ha with
    | head => exact fk
    | tail _ h => cases h
  have ho : ∀ a ∈ ownOf (h2'.objs.size, h2'.objs.size) (.list (l1 ++ l2)), a ∈ [((h2'.objs.size : Addr), lstO (its1 ++ its2) 0)].map (·.1) := fun a ha => ha
  have ex := LW.grow_ext (x := x2) (q := (h2'.objs.size, h2'.objs.size)) (O := .list (l1 ++ l2)) hn ho
  have A3 := A2.grow F3 (ps := [((h2'.objs.size : Addr), lstO (its1 ++ its2) 0)]) (q := (h2'.objs.size, h2'.objs.size)) (O := .list (l1 ++ l2)) N3 hn (by simp) ho (by simp [ownOf]) ⟨_, 0, .head _, ((hv.mono e2).append hv2).mono ex⟩
  exact h _ h3 t2 _ A3 ((e'.trans e2).trans ex) (.obj (LW.grow_at A2.ok))
theorem At.idict {c : Cx} {m : Str → Option Value} {h : Heap} {x : LW} {k : Nat} {l : List (Int × AV)} {q : Addr × Addr} (A : At W c m H h x) (hk : H[k]? = some (.idict l)) (hq : x.ad[k]? = some q) : ∃ us, h.DictOf (PySem.intKind W.prog W.w) q.1 us ∧ KvR W.kp x l us ∧ (q.1 == sysModules) = false := by
  obtain ⟨o, us, lo, m1, ho, hv⟩ := A.ok.objs k _ q hk hq
  exact ⟨us, Heap.dictOf_iff.mpr ⟨o, A.N.get m1, ho⟩, hv, lo⟩
theorem At.iset {c : Cx} {m : Str → Option Value} {h h' : Heap} {x : LW} {k : Nat} {l l' : List (Int × AV)} {q : Addr × Addr} {us' : List (Int × Value)} (A : At W c m H h x) (hk : H[k]? = some (.idict l)) (hq : x.ad[k]? = some q) (hs : Heap.SameBut q.1 h h') (hd : h'.DictOf (PySem.intKind W.prog W.w) q.1 us') (r : ∀ x', Ext x x' → KvR W.kp x' l' us') :
    ∃ x', At W c m (H.set k (.idict l')) h' x' ∧ Ext x x' ∧ x'.ad = x.ad := by
  obtain ⟨o, us, lo, m1, ho, hv⟩ := A.ok.objs k _ q hk hq
  obtain ⟨o', g', d'⟩ := Heap.dictOf_iff.mp hd
  have ex := LW.put_ext (x := x) (o := o') (A.owned hk hq (.head _))
  refine ⟨_, A.chg hk hq (.head _) m1 hs g' (O' := .idict l') trivial ⟨o', us', lo, mem_setAt_self m1, d', r _ ex⟩, ex, rfl⟩
theorem At.inew {c : Cx} {m : Str → Option Value} {h : Heap} {x : LW} (O : CxOk W b d sc c) (A : At W c m H h x) : ∃ x' : LW, At W c m (H ++ [.idict []]) (h.push { cls := .type "dict", data := .dict #[] }) x' ∧ Ext x x' ∧ x'.ad[H.length]? = some (h.objs.size, h.objs.size) := by
  have fk := fresh_key A
  have hn : ∀ a ∈ [((h.objs.size : Addr), ({ cls := .type "dict", data := .dict #[] } : Obj))].map (·.1), a ∉ x.led.map (·.1) := fun a ha => by
    cases ha with
    | head => exact fk
    | tail _ h => cases h
  have ho : ∀ a ∈ ownOf (h.objs.size, h.objs.size) (.idict []), a ∈ [((h.objs.size : Addr), ({ cls := .type "dict", data := .dict #[] } : Obj))].map (·.1) := fun a ha => ha
  refine ⟨x.grow [(h.objs.size, { cls := .type "dict", data := .dict #[] })] (h.objs.size, h.objs.size) (.idict []), A.grow (A.F.push _) (A.N.push A.F _ rfl) hn (by simp) ho (by simp [ownOf]) ?_, LW.grow_ext hn ho, LW.grow_at A.ok⟩
  obtain ⟨o, g, di⟩ := Heap.dictOf_iff.mp (Heap.DictOf.new (knd := PySem.intKind W.prog W.w) h)
  have e : o = { cls := .type "dict", data := .dict #[] } := Option.some.inj (g.symm.trans (Heap.get?_push_size _ rfl))
  subst e
  refine ⟨_, [], ?_, .head _, di, trivial⟩
  have h1 : sysModules < c.h₀.objs.size := modules_low O.T.nolimit
  have h2 : c.h₀.objs.size ≤ h.objs.size := Nat.le_trans A.F.above (Nat.le_of_lt A.F.ns.lt)
  exact beq_eq_false_iff_ne.mpr (Nat.ne_of_gt (Nat.lt_of_lt_of_le h1 h2))
theorem Ev.idict1 {ke ve : PySem.Expr} {k : Nat} {i : Int} (h1 : Ev W b d sc ke fr (H ++ [.idict []]) (.int i) (H ++ [.idict []])) (h2 : Ev W b d sc ve fr (H ++ [.idict []]) v (H₁ ++ [.idict []])) (hl : H₁.length = H.length) (hk : H.length = k) :
    Ev W b d sc (.Dict [some ke] [ve] p) fr H (.obj k) (H₁ ++ [.idict [(i, v)]]) := by
  subst hk
  intro c O s m x A F Q E h
  obtain ⟨x0, A0, e0, q0⟩ := A.inew O
  refine wpAny_Dict_pairs (knd := PySem.intKind W.prog W.w) (pairs := [(eval ke (c.env sc), do let x ← eval ve (c.env sc); standAt p; pure x)]) rfl (by simp) (by show 1 ≤ 15; decide) ?_
  refine evalPairs_cons (h1 c O { s with heap := s.heap.push { cls := .type "dict", data := .dict #[] } } m x0 A0 (F.mono e0) _ _ fun u h' t' x' A' e' r' => ?_)
  refine wpAny_bind (h2 c O { s with heap := h', toks := t' } m x' A' (F.mono (e0.trans e')) _ _ fun u2 h2' t2 x2 A2 e2 r2 => ?_)
  refine wpAny_bind (wpAny_standAt (wpAny_pure (evalPairs_nil ?_)))
  obtain ⟨tk, rfl⟩ := VR.i r'
  have q2 := (e'.trans e2).at q0
  rw [← hl] at q2
  obtain ⟨us0, hd, hv, lo⟩ := A2.idict atLast q2
  have : us0 = [] := by cases us0 with | nil => rfl | cons _ _ => exact hv.elim
  subst this
  refine ⟨[(i, u2)], ⟨intKind_is _ _ _ _, rfl, trivial⟩, hd, fun h3 hd3 hs3 => ?_⟩
  obtain ⟨x3, A3, e3, ad3⟩ := A2.iset atLast q2 hs3 hd3 (l' := [(i, v)]) fun z ez => ⟨rfl, r2.mono ez, trivial⟩
  rw [setLast] at A3
  have q3 := ((e'.trans e2).trans e3).at q0
  exact h (.ref s.heap.objs.size) h3 _ x3 A3 (((e0.trans e').trans e2).trans e3) (.obj (p := (s.heap.objs.size, s.heap.objs.size)) q3)
theorem Ex.setI {o i : PySem.Expr} {ip : Pos} {k : Nat} {l l' : List (Int × AV)} {n : Int} (h1 : Ev W b d sc e fr H v H₁) (h2 : Ev W b d sc o fr H₁ (.obj k) H₂) (h3 : Ev W b d sc i fr H₂ (.int n) H₃) (hk : H₃[k]? = some (.idict l)) (hl : l.length ≤ 1000) (hst : storedV l n v = l')
    (hs : ∀ env, env.scope = sc → swapsWith e (some (.Subscript o i ip)) p.line env = pure false) (hq : H₃.set k (.idict l') = H₄) :
    Ex W b d sc (.Assign [.Subscript o i ip] e p) fr H .next fr H₄ := by
  subst hst hq
  intro c O s m x A F Q E h
  refine wpAny_Assign_Subscript (h1 c O s m x A F _ _ fun u h' t' x' A' e' r' => ?_) (hs _ rfl)
  refine h2 c O _ m x' A' (F.mono e') _ _ fun u2 h2' t2 x2 A2 e2 r2 => ?_
  refine h3 c O _ m x2 A2 (F.mono (e'.trans e2)) _ _ fun u3 h3' t3 x3 A3 e3 r3 => ?_
  obtain ⟨_, hq, rfl⟩ := VR.o r2
  first | obtain rfl := VR.v r3 | obtain ⟨_, rfl⟩ := VR.i r3 | obtain rfl := VR.t r3 | obtain rfl := VR.n r3 | obtain ⟨_, rfl⟩ := VR.s r3 | cases r3
  obtain ⟨us, d1, k1, lo⟩ := A3.idict hk (e3.at hq)
  refine wpAny_setItem_pairs (s := { s with heap := h3', toks := t3 }) (knd := PySem.intKind W.prog W.w) (intKind_is _ _ _ _) d1 (fun h4 d4 hs4 => ?_) (by rw [← k1.length, sizeLine_eq]; omega)
  obtain ⟨x4, A4, e4, _⟩ := A3.iset hk (e3.at hq) hs4 d4 (l' := storedV l n v) fun z ez => KvR.stored n ((r'.mono (e2.trans e3)).mono ez) (KvR.monoV ez.toS.toV k1)
  exact h .next m h4 _ x4 A4 (F.mono (((e'.trans e2).trans e3).trans e4)) (((e'.trans e2).trans e3).trans e4) trivial
end
end
section
open PySem PySem.W PyProof.Rows PySem.Calls PySem.Spec
theorem sh_all {f s : Nat} (hf0 : 1 ≤ f) (hf : f ≤ 2) (hs0 : 1 ≤ s) (hs : s ≤ 3) (cuts v : Bool) : shT f s cuts v = true := by
  have ef : f = 1 ∨ f = 2 := by omega
  have es : s = 1 ∨ s = 2 ∨ s = 3 := by omega
  rcases ef with rfl | rfl
  · rcases es with rfl | rfl | rfl
    · cases cuts
      · cases v
        · exact sh_1_1_f_f
        · exact sh_1_1_f_t
      · cases v
        · exact sh_1_1_t_f
        · exact sh_1_1_t_t
    · cases cuts
      · cases v
        · exact sh_1_2_f_f
        · exact sh_1_2_f_t
      · cases v
        · exact sh_1_2_t_f
        · exact sh_1_2_t_t
    · cases cuts
      · cases v
        · exact sh_1_3_f_f
        · exact sh_1_3_f_t
      · cases v
        · exact sh_1_3_t_f
        · exact sh_1_3_t_t
  · rcases es with rfl | rfl | rfl
    · cases cuts
      · cases v
        · exact sh_2_1_f_f
        · exact sh_2_1_f_t
      · cases v
        · exact sh_2_1_t_f
        · exact sh_2_1_t_t
    · cases cuts
      · cases v
        · exact sh_2_2_f_f
        · exact sh_2_2_f_t
      · cases v
        · exact sh_2_2_t_f
        · exact sh_2_2_t_t
    · cases cuts
      · cases v
        · exact sh_2_3_f_f
        · exact sh_2_3_f_t
      · cases v
        · exact sh_2_3_t_f
        · exact sh_2_3_t_t
theorem bits_mem : ∀ {l : List Bool} {n : Nat}, l.length = n → l ∈ bitsT n
  | [], 0, _ => .head _
  | b :: l, n + 1, h => by
    unfold bitsT
    refine List.mem_flatMap.mpr ⟨l, bits_mem (Nat.succ.inj h), ?_⟩
    cases b
    · exact .head _
    · exact .tail _ (.head _)
noncomputable def rhoT (F G : List Int) (q : Int) (k : Nat) : Int := if k < 2 then F.getD k 0 else if k < 5 then G.getD (k - 2) 0 else q
noncomputable def actT (F G : List Int) (q : Int) (v : Bool) : List Bool :=
  if v then (List.range (F.length * G.length)).map fun k => decide (rhoT F G q (k / G.length) = rhoT F G q (k % G.length + 2))
  else (List.range (F.length + G.length)).map fun k => decide (rhoT F G q 5 = rhoT F G q (if k < F.length then k else k - F.length + 2))
theorem act_len (F G : List Int) (q : Int) (v : Bool) : (actT F G q v).length = if v then F.length * G.length else F.length + G.length := by
  unfold actT
  cases v <;> simp
theorem act_eq {F G : List Int} {q : Int} {v : Bool} (hF : F.length ≤ 2) (hG : G.length ≤ 3) : ∀ i w, relT F.length G.length v i w = true → eqT F.length G.length v (actT F G q v) i w = decide (rhoT F G q i = rhoT F G q w) := by
  intro i w h
  unfold eqT idxT actT
  cases v with
  | true =>
    unfold relT at h
    simp only [if_true, Bool.and_eq_true, decide_eq_true_eq] at h ⊢
    obtain ⟨⟨h1, h2⟩, h3⟩ := h
    have hk : i * G.length + (w - 2) < F.length * G.length := by
      have : (i + 1) * G.length ≤ F.length * G.length := Nat.mul_le_mul_right _ h1
      rw [Nat.succ_mul] at this
      omega
    rw [List.getD_eq_getElem?_getD, List.getElem?_map, List.getElem?_range hk]
    have e1 : (i * G.length + (w - 2)) / G.length = i := by
      rw [Nat.add_comm, Nat.mul_comm, Nat.add_mul_div_left _ _ (by omega), Nat.div_eq_of_lt h3, Nat.zero_add]
    have e2 : (i * G.length + (w - 2)) % G.length = w - 2 := by
      rw [Nat.add_comm, Nat.add_mul_mod_self_right, Nat.mod_eq_of_lt h3]
    show decide _ = _
    rw [e1, e2, show w - 2 + 2 = w by omega]
  | false =>
    unfold relT at h
    simp only [Bool.false_eq_true, if_false, Bool.and_eq_true, Bool.or_eq_true, decide_eq_true_eq, beq_iff_eq] at h ⊢
    obtain ⟨rfl, h⟩ := h
    rcases h with h | ⟨h1, h2⟩
    · rw [if_pos (by omega), List.getD_eq_getElem?_getD, List.getElem?_map, List.getElem?_range (by omega)]
      show decide _ = _
      rw [if_pos h]
    · rw [if_neg (by omega), List.getD_eq_getElem?_getD, List.getElem?_map, List.getElem?_range (by omega)]
      show decide _ = _
      rw [if_neg (by omega), show F.length + (w - 2) - F.length + 2 = w by omega]
theorem turns_all {F G : List Int} {q : Int} {cuts v : Bool} (hF0 : 1 ≤ F.length) (hF : F.length ≤ 2) (hG0 : 1 ≤ G.length) (hG : G.length ≤ 3) :
    Turns (eqT F.length G.length v (actT F G q v)) (relT F.length G.length v) (pgT F.length G.length cuts) v false (startT F.length G.length v) (dueT (eqT F.length G.length v (actT F G q v)) F.length G.length cuts v) := by
  have h := sh_all hF0 hF hG0 hG cuts v
  unfold shT at h
  have h2 := List.all_eq_true.mp h (actT F G q v) (bits_mem (act_len F G q v))
  exact turns_of (t1 := startT F.length G.length v) rfl h2
theorem len12 {F : List Int} (h1 : 1 ≤ F.length) (h2 : F.length ≤ 2) : (∃ a, F = [a]) ∨ ∃ a b, F = [a, b] := by
  cases F with
  | nil => cases h1
  | cons a F => cases F with
    | nil => exact .inl ⟨a, rfl⟩
    | cons b F => cases F with
      | nil => exact .inr ⟨a, b, rfl⟩
      | cons _ _ => exact absurd (Nat.le_of_succ_le_succ (Nat.le_of_succ_le_succ h2)) (Nat.not_succ_le_zero _)
theorem len13 {F : List Int} (h1 : 1 ≤ F.length) (h2 : F.length ≤ 3) : (∃ a, F = [a]) ∨ (∃ a b, F = [a, b]) ∨ ∃ a b c, F = [a, b, c] := by
  cases F with
  | nil => cases h1
  | cons a F => cases F with
    | nil => exact .inl ⟨a, rfl⟩
    | cons b F => cases F with
      | nil => exact .inr (.inl ⟨a, b, rfl⟩)
      | cons c F => cases F with
        | nil => exact .inr (.inr ⟨a, b, c, rfl⟩)
        | cons _ _ => exact absurd (Nat.le_of_succ_le_succ (Nat.le_of_succ_le_succ (Nat.le_of_succ_le_succ h2))) (Nat.not_succ_le_zero _)
theorem rho_first {F G : List Int} {q : Int} (hF : F.length ≤ 2) : F = (firstI F.length).map (rhoT F G q) := by
  cases F with
  | nil => rfl
  | cons x F => rcases len12 (F := x :: F) (Nat.succ_le_succ (Nat.zero_le _)) hF with ⟨a, e⟩ | ⟨a, b, e⟩ <;> rw [e] <;> rfl
theorem rho_second {F G : List Int} {q : Int} (hG : G.length ≤ 3) : G = (secondI G.length).map (rhoT F G q) := by
  cases G with
  | nil => rfl
  | cons x G => rcases len13 (F := x :: G) (Nat.succ_le_succ (Nat.zero_le _)) hG with ⟨a, e⟩ | ⟨a, b, e⟩ | ⟨a, b, c, e⟩ <;> rw [e] <;> rfl
theorem filter_in {α : Type} {P Q : α → Bool} : ∀ {l : List α}, (∀ x ∈ l, P x = Q x) → l.filter P = l.filter Q
  | [], _ => rfl
  | x :: l, h => by
    have hx := h x (.head _)
    have ih := filter_in (l := l) fun y hy => h y (.tail _ hy)
    rw [List.filter_cons, List.filter_cons, hx, ih]
theorem filter_of {G : List Int} {L : List Nat} {ρ : Nat → Int} (h : G = L.map ρ) (p : Int → Bool) : G.filter p = (L.filter (p ∘ ρ)).map ρ := by rw [h, List.filter_map]
theorem flatMap_in {α β : Type} {P Q : α → List β} : ∀ {l : List α}, (∀ x ∈ l, P x = Q x) → l.flatMap P = l.flatMap Q
  | [], _ => rfl
  | x :: l, h => by
    rw [List.flatMap_cons, List.flatMap_cons, h x (.head _), flatMap_in fun y hy => h y (.tail _ hy)]
theorem due_eq {F G : List Int} {q : Int} {cuts : Bool} (hF : F.length ≤ 2) (hG : G.length ≤ 3) :
    dueL F G cuts q = (dueT (eqT F.length G.length (decide (q = 3)) (actT F G q (decide (q = 3)))) F.length G.length cuts (decide (q = 3))).map (rhoT F G q) := by
  have hrel := act_eq (F := F) (G := G) (q := q) (v := decide (q = 3)) hF hG
  generalize hE : eqT F.length G.length (decide (q = 3)) (actT F G q (decide (q = 3))) = eq at hrel ⊢
  have m1 : ∀ i ∈ firstI F.length, i < F.length := fun i hi => List.mem_range.mp hi
  have m2 : ∀ j ∈ secondI G.length, 2 ≤ j ∧ j - 2 < G.length := fun j hj => by
    obtain ⟨k, hk, rfl⟩ := List.mem_map.mp hj
    have := List.mem_range.mp hk
    omega
  have r5 : rhoT F G q 5 = q := rfl
  have met : (F.filter fun v => decide (q = 3) || decide (q = v)) = ((firstI F.length).filter fun i => decide (q = 3) || eq 5 i).map (rhoT F G q) := by
    rw [filter_of (rho_first (G := G) (q := q) hF)]
    congr 1
    refine filter_in fun i hi => ?_
    show (decide (q = 3) || decide (q = rhoT F G q i)) = _
    cases hv : decide (q = 3) with
    | true => rfl
    | false =>
      rw [hv] at hrel
      rw [hrel 5 i (by unfold relT; have := m1 i hi; simp [this]), r5]
  have metC : metL F cuts q = ((if cuts then ((firstI F.length).filter fun i => decide (q = 3) || eq 5 i).take 1 else (firstI F.length).filter fun i => decide (q = 3) || eq 5 i)).map (rhoT F G q) := by
    unfold metL
    cases cuts
    · exact met
    · show List.take 1 _ = List.map _ (List.take 1 _)
      rw [met, List.map_take]
  unfold dueL dueT
  rw [metC]
  dsimp only
  generalize hM : (if cuts = true then ((firstI F.length).filter fun i => decide (q = 3) || eq 5 i).take 1 else (firstI F.length).filter fun i => decide (q = 3) || eq 5 i) = M
  have mM : ∀ i ∈ M, i < F.length ∧ (decide (q = 3) || eq 5 i) = true := fun i hi => by
    have hi' : i ∈ (firstI F.length).filter fun i => decide (q = 3) || eq 5 i := by
      rw [← hM] at hi
      cases cuts
      · exact hi
      · exact List.mem_of_mem_take hi
    have := List.mem_filter.mp hi'
    exact ⟨m1 i this.1, this.2⟩
  rw [List.flatMap_map, List.map_flatMap]
  refine flatMap_in fun i hi => ?_
  obtain ⟨hi1, hi2⟩ := mM i hi
  have same : rhoT F G q (if decide (q = 3) = true then i else 5) = rhoT F G q i := by
    cases hv : decide (q = 3) with
    | true => rfl
    | false =>
      rw [hv] at hi2 hrel
      rw [hrel 5 i (by unfold relT; simp [hi1])] at hi2
      simpa using hi2
  rw [filter_of (rho_second (F := F) (q := q) hG), List.map_map, List.map_map]
  have hf : ((secondI G.length).filter ((fun v => decide (v = rhoT F G q i)) ∘ rhoT F G q)) = (secondI G.length).filter fun j => eq (if decide (q = 3) = true then i else 5) j := by
    refine filter_in fun j hj => ?_
    obtain ⟨j1, j2⟩ := m2 j hj
    show decide (rhoT F G q j = rhoT F G q i) = _
    rw [hrel _ j (by
      unfold relT
      cases hv : decide (q = 3) with
      | true => simp [hi1, j1, j2]
      | false => simp [j1, j2]), same]
    exact decide_eq_decide.mpr ⟨Eq.symm, Eq.symm⟩
  rw [hf]
  refine List.map_congr_left fun j _ => ?_
  exact same.symm
end
section
open PySem PySem.W PyProof.Rows PySem.Calls PySem.Spec
noncomputable abbrev PH (i : Int) (l : List Int) (T : Hp) : Hp := .list (l.map .int) :: .list [.int i, .obj 0] :: T
theorem PH_at {i : Int} {l : List Int} {T : Hp} (h0 : l ≠ []) (hl : l.length ≤ 20) : PotAt (PH i l T) 1 0 i l := ⟨rfl, rfl, by decide, h0, hl⟩
noncomputable abbrev lawNs : List Str := [Str.ofString "script", Str.ofString "pot", Str.ofString "code", Str.ofString "first", Str.ofString "second", Str.ofString "cuts", Str.ofString "asked", Str.ofString "entries", Str.ofString "small", Str.ofString "great", Str.ofString "cells", Str.ofString "m", Str.ofString "due", Str.ofString "spot", Str.ofString "found"]
noncomputable def lawSc : Scope := match f_law with
  | .FunctionDef _ _ _ _ _ _ scope _ _ _ => scope
  | _ => default
noncomputable def lawBody : List PySem.Stmt := match f_law with
  | .FunctionDef _ _ b _ _ _ _ _ _ _ => b
  | _ => []
noncomputable def lawRest : List PySem.Stmt := lawBody.drop 1
noncomputable def lawOne : PySem.Stmt := lawBody.headD (.Pass ⟨0, 0, 0, 0⟩)
section
variable {S : St0}
theorem law_enter {a : Addr} {vs : List Value} {s : Shared} {R : Result → Shared → Prop} (X : (K0 S.w.params).In s.heap) (T : Top S.pq S.loose S.mean S.mg S.mb s.heap) (hL : s.heap.IsList a vs.toArray) {ns : List Int} (hI : IntsAre vs ns) (hlen : ns.length ≤ 63)
    (hone : ∀ (c : Cx), CxOk S.W true 697 lawSc c → ∀ (s' : Shared) (m : Str → Option Value) (x : LW) (ca : Addr) (oc : Obj) (E : Value → Shared → Prop) (Q : Flow → Shared → Prop), c.h₀ = s.heap → At S.W c m [] s'.heap x → m (Str.ofString "script") = some (.ref a) → c.cl.lookup (Str.ofString "pot") = some ca → (ca, oc) ∈ x.led → oc.data = .cell none → c.cl.lookup (Str.ofString "script") = none →
      (∀ l, l ≠ [] → l.length ≤ 20 → ∀ h' t' x', At S.W c m (PH 0 l []) h' x' → FrR S.W.kp c x' (lawNs, some (.val (.ref a)) :: some (.obj 1) :: [none, none, none, none, none, none, none, none, none, none, none, none, none]) m → Q .next { s' with heap := h', toks := t' }) → wpAny (model S.prog S.w) c.A (exec lawOne (c.env lawSc)) Q E s')
    (hrest : ∀ l, l ≠ [] → l.length ≤ 20 → ∃ fr' H', Exs S.W true 697 lawSc lawRest (lawNs, some (.val (.ref a)) :: some (.obj 1) :: [none, none, none, none, none, none, none, none, none, none, none, none, none]) (PH 0 l []) (.ret (.bool true)) fr' H')
    (hR : ∀ h' t', (∀ b o, s.heap.get? b = some o → h'.get? b = some o) → R (.ok (.ret (.bool true))) { s with heap := h', toks := t' }) : codeAny (model S.prog S.w) callerA (.call (.ref 994) ⟨[.ref a], []⟩) R s := by
  refine call_cellsN_ret (name := Str.ofString "law") (body := lawBody) (scope := lawSc) (binds := [(Str.ofString "script", .ref a)]) (by show 301 < 1000; decide) (X 994 _ rfl) rfl T.nolimit (codeRec_of (K := K0 S.w.params) X (by kernel_rfl)) rfl ?_ (by decide +kernel) (fun h₁ tk cells F N Y => ?_) rfl rfl rfl
  · intro x hx
    rw [List.mem_singleton] at hx
    subst hx
    exact .inl (by kernel_rfl)
  · let c : Cx := { A₀ := callerA, A := callerA.deeper (envX "law" lawSc s.heap.objs.size 994 (.ref 993) (cellsFrom (s.heap.objs.size + 1) lawSc.names [])), base := s.heap, h₀ := s.heap, outer := [], qual := "law", L := s.heap.objs.size, f := 994, cd := .ref 993, cl := cellsFrom (s.heap.objs.size + 1) lawSc.names [] }
    have hnm : (lawSc.names.map (·.1)).Nodup := by decide +kernel
    have O : CxOk S.W true 697 lawSc c := by
      refine ⟨below_caller (Top.heap T), ?_, rfl, X, T, by show 301 + 1 + 697 < 1000; decide, by show 4 + 3 + 4 * 697 + 100 < 9900; decide, fun _ => rfl, ?_, by show 302 ≤ 301 + 1; decide, fun _ => rfl, fun y q => Option.isSome_iff_exists.mp (cellsFrom_some lawSc.names _ [] (.inl q))⟩
      · exact Around.frames_deeper rfl
      · intro y b q
        rcases cf_kind lawSc.names (s.heap.objs.size + 1) [] q with q | q
        · exact look_nodup hnm q
        · cases q
    obtain ⟨cp1, cp2⟩ := cf_props (b := s.heap.objs.size + 1) lawSc.names (s.heap.objs.size + 1) [] (Nat.le_refl _) List.nodup_nil (fun p hp => nomatch hp)
    have ck := cellsAre_keys Y
    let x : LW := { led := cells, ad := [], own := [] }
    have A : At S.W c (bindL (envOfC "law" lawSc s.heap.objs.size 994 (.ref 993)).kindOf [(Str.ofString "script", .ref a)] fun _ => none) [] h₁ x := ⟨F, N, ⟨by show (cells.map (·.1)).Nodup; rw [ck]; exact cp1, rfl, List.nodup_nil, rfl, fun k O p hk => by simp at hk⟩⟩
    obtain ⟨ca, hca⟩ := O.lc2 (Str.ofString "pot") (by kernel_rfl)
    obtain ⟨oc, ho, hd⟩ := cellsAre_at Y hca
    have hb : lawBody = lawOne :: lawRest := by kernel_rfl
    have hm : bindL (envOfC "law" lawSc s.heap.objs.size 994 (.ref 993)).kindOf [(Str.ofString "script", .ref a)] (fun _ => none) (Str.ofString "script") = some (.ref a) := bindL_at (by show lawSc.names.lookup (Str.ofString "script") = some .local; kernel_rfl) (by simp) (.inl (.head _))
    have hno : bindC (envOfC "law" lawSc s.heap.objs.size 994 (.ref 993)).kindOf [(Str.ofString "script", .ref a)] (fun _ => none) (Str.ofString "pot") = none := by
      unfold bindC
      rw [if_pos (show (envOfC "law" lawSc s.heap.objs.size 994 (.ref 993)).kindOf (Str.ofString "script") = some .local from by show lawSc.names.lookup (Str.ofString "script") = some .local; kernel_rfl)]
      rfl
    rw [hno] at hd
    rw [hb]
    refine wpAny_execs_cons (hone c O { s with heap := h₁, toks := tk } _ x ca oc _ _ rfl A hm hca ho hd (O.nl (by kernel_rfl)) fun l l0 l1 h' t' x' A' F' => ?_)
    obtain ⟨fr', H', ex⟩ := hrest l l0 l1
    refine ex c O { s with heap := h', toks := t' } _ x' A' F' _ _ fun f m2 h2 t2 x2 A2 F2 e2 r2 => ?_
    cases f with
    | ret u =>
      first | obtain rfl := VR.v r2 | obtain ⟨_, rfl⟩ := VR.i r2 | obtain rfl := VR.t r2 | obtain rfl := VR.n r2 | obtain ⟨_, rfl⟩ := VR.s r2 | cases r2
      exact hR h2 t2 A2.F.keep
    | _ => exact r2.elim
end
end
section
open PySem PySem.W PyProof.Rows PySem.Calls PySem.Spec
section
variable {W : Wd} {c : Cx} {m : Str → Option Value} {h h' : Heap} {x : LW} {H : Hp}
theorem At.growL {l : List AV} {its : List Value} {n : Nat} (A : At W c m H h x) (keep : ∀ b o, h.get? b = some o → h'.get? b = some o) (g : h'.get? h.objs.size = some (lstO its n)) (r : VRs W.kp x l its) :
    ∃ x', At W c m (H ++ [.list l]) h' x' ∧ Ext x x' ∧ x'.ad[H.length]? = some (h.objs.size, h.objs.size) := by
  have fk := fresh_key A
  have hn : ∀ a ∈ [((h.objs.size : Addr), lstO its n)].map (·.1), a ∉ x.led.map (·.1) := fun a ha => by
    cases ha with
    | head => exact fk
    | tail _ h => cases h
  have ho : ∀ a ∈ ownOf (h.objs.size, h.objs.size) (.list l), a ∈ [((h.objs.size : Addr), lstO its n)].map (·.1) := fun a ha => ha
  have ex := LW.grow_ext (x := x) (q := (h.objs.size, h.objs.size)) (O := .list l) hn ho
  refine ⟨_, A.grow (A.F.keeps keep) (fun p hp => ?_) hn (by simp) ho (by simp [ownOf]) ⟨its, n, .head _, r.mono ex⟩, ex, LW.grow_at A.ok⟩
  rcases List.mem_cons.mp hp with rfl | hp
  · exact ⟨g, Ne.symm (Nat.ne_of_lt A.F.ns.lt), next_is_new A.F⟩
  · exact ⟨keep _ _ (A.N p hp).1, (A.N p hp).2⟩
theorem ints_vrs {K : KP} {x : LW} {vs : List Value} {ns : List Int} (h : IntsAre vs ns) : VRs K x (ns.map .int) vs := by
  induction h with
  | nil => exact .nil
  | cons n t _ ih => exact .cons (.int _ _) ih
theorem ints_any {K : KP} {x x' : LW} {l : List Int} : ∀ {us : List Value}, VRs K x (l.map .int) us → VRs K x' (l.map .int) us := by
  induction l with
  | nil => intro us h; rw [h.zz]; exact .nil
  | cons i l ih =>
    intro us h
    obtain ⟨u, t, rfl, r, ht⟩ := h.cc
    obtain ⟨tk, rfl⟩ := r.i
    exact .cons (.int _ _) (ih ht)
theorem updF_setAt : ∀ {led : List (Addr × Obj)} {d : Addr} {o : Obj}, (led.map (·.1)).Nodup → (d, o) ∈ led → UpdF d o led (fun o' => setAt led d o')
  | [], _, _, _, h => nomatch h
  | q :: led, d, o, nd, h => by
    rw [List.map_cons, List.nodup_cons] at nd
    rcases List.mem_cons.mp h with e | h
    · subst e
      have off : ∀ p ∈ led, p.1 ≠ d := fun p hp e => nd.1 (by have := List.mem_map_of_mem (f := Prod.fst) hp; rw [e] at this; exact this)
      have hr : ∀ o', setAt ((d, o) :: led) d o' = (d, o') :: led := fun o' => by
        unfold setAt
        rw [List.map_cons, if_pos rfl]
        congr 1
        conv => rhs; rw [← List.map_id led]
        exact List.map_congr_left fun p hp => if_neg (off p hp)
      have e : (fun o' => setAt ((d, o) :: led) d o') = fun o' => (d, o') :: led := funext hr
      rw [e]
      exact .head off
    · have hn : q.1 ≠ d := fun e => nd.1 (by have := List.mem_map_of_mem (f := Prod.fst) h; rw [e]; exact this)
      have e : (fun o' => setAt (q :: led) d o') = fun o' => q :: setAt led d o' := funext fun o' => by
        unfold setAt
        rw [List.map_cons, if_neg hn]
      rw [e]
      exact .tail hn (updF_setAt nd.2 h)
theorem no_some : ∀ {ns : List Str} {fr : List (Option AV)} {y : Str} {v : AV}, (fr.all fun o => o.isNone) = true → ¬ Loc ns fr y v
  | _ :: _, o :: fr, y, v, h, l => by
    rw [List.all_cons, Bool.and_eq_true] at h
    cases l with
    | z => cases h.1
    | s l => exact no_some h.2 l
  | [], _, _, _, _, l => nomatch l
  | _ :: _, [], _, _, _, l => nomatch l
end
section
variable {S : St0}
theorem law_one {a : Addr} {vs : List Value} {s : Shared} {ns : List Int} (hL : s.heap.IsList a vs.toArray) (hI : IntsAre vs ns) (hlen : ns.length ≤ 63) : ∀ (c : Cx), CxOk S.W true 697 lawSc c → ∀ (s' : Shared) (m : Str → Option Value) (x : LW) (ca : Addr) (oc : Obj) (E : Value → Shared → Prop) (Q : Flow → Shared → Prop), c.h₀ = s.heap → At S.W c m [] s'.heap x → m (Str.ofString "script") = some (.ref a) → c.cl.lookup (Str.ofString "pot") = some ca → (ca, oc) ∈ x.led → oc.data = .cell none → c.cl.lookup (Str.ofString "script") = none →
      (∀ l, l ≠ [] → l.length ≤ 20 → ∀ h' t' x', At S.W c m (PH 0 l []) h' x' → FrR S.W.kp c x' (lawNs, some (.val (.ref a)) :: some (.obj 1) :: [none, none, none, none, none, none, none, none, none, none, none, none, none]) m → Q .next { s' with heap := h', toks := t' }) → wpAny (model S.prog S.w) c.A (exec lawOne (c.env lawSc)) Q E s' := by
  intro c O s' m x ca oc E Q hh A hm hca hoc hd hsc k
  have F0 : FrR S.W.kp c x ([], []) m := ⟨List.nodup_nil, fun y v l => nomatch l⟩
  have len : vs.length = ns.length := hI.length
  have isl : ∀ {h : Heap} {H : Hp} {x : LW}, At S.W c m H h x → h.IsList a vs.toArray := fun A' => by
    obtain ⟨o, g, r⟩ := hL
    exact ⟨o, A'.F.keep _ _ (by rw [hh]; exact g), r⟩
  have base : x.ad = [] := List.length_eq_zero_iff.mp A.ok.len
  have num : ∀ (K : Value → Shared → Prop) (E : Value → Shared → Prop), (∀ u l h' t' x', l ≠ [] → l.length ≤ 20 → At S.W c m [.list (l.map .int)] h' x' → Ext x x' → VR S.W.kp x' (.obj 0) u → K u { s' with heap := h', toks := t' }) → ∀ t0,
      wpAny (model S.prog S.w) c.A (eval ((match lawOne with | .Assign _ (.List (_ :: e :: _) _) _ => e | _ => .Constant .none 0 ⟨0, 0, 0, 0⟩)) (c.env lawSc)) K E { s' with toks := t0 } := by
    intro K E k t0
    refine wpAny_IfExp (wpAny_isTrue_Compare1 (wpAny_Call_ofName ((ev_len (S := S) (by kernel_rfl)) c O { s' with toks := t0 } m x A F0 _ _ fun u h' t' x' A' e' r' => ?_)) rfl)
    first | obtain rfl := VR.v r' | obtain ⟨_, rfl⟩ := VR.i r' | obtain rfl := VR.t r' | obtain rfl := VR.n r' | obtain ⟨_, rfl⟩ := VR.s r' | cases r'
    refine callWith_of (P := fun _ => True) rfl (fun _ _ => ⟨_, .inr (.inl rfl), looks_machine⟩) ?_
    refine evalArgs_plain (Calls.spliced_cons ?_)
    refine nameX_L A'.F hm ?_ O.hk (by kernel_rfl) (by kernel_rfl)
    refine Calls.spliced_nil ⟨trivial, ?_⟩
    refine len_list (s := { s' with heap := h', toks := t' }) (items := vs.toArray) (isl A') (by rw [List.size_toArray, len]; omega) ?_
    refine wpAny_Constant_int ?_
    refine gt_int ?_
    refine wpAny_truthy_bool ?_
    by_cases h0 : 0 < ns.length
    · have e1 : decide ((0 : Int) < ((vs.toArray.size : Nat) : Int)) = true := decide_eq_true (by rw [List.size_toArray, len]; omega)
      rw [e1, if_pos rfl]
      refine wpAny_Call_ofName ((ev_list (S := S) (by kernel_rfl)) c O { s' with heap := h', toks := _ } m x' A' (F0.mono e') _ _ fun u h2 t2 x2 A2 e2 r2 => ?_)
      first | obtain rfl := VR.v r2 | obtain ⟨_, rfl⟩ := VR.i r2 | obtain rfl := VR.t r2 | obtain rfl := VR.n r2 | obtain ⟨_, rfl⟩ := VR.s r2 | cases r2
      refine callWith_of (P := fun _ => True) rfl (fun _ _ => ⟨_, .inr (.inl rfl), looks_type⟩) ?_
      refine evalArgs_plain (Calls.spliced_cons ?_)
      refine Subscript_ (nameX_L A2.F hm ?_ O.hk (by kernel_rfl) (by kernel_rfl))
      refine wpAny_Slice ?_
      rw [evalPart_none]
      refine wpAny_pure ?_
      rw [evalPart_some]
      refine wpAny_Constant_int ?_
      refine wpAny_pure ?_
      have A3 := A2.more (o := { cls := .type "slice", data := .fields #[.none, .int 20 t2, .none] }) rfl
      have e3 := LW.more_ext (x := x2) (o := { cls := .type "slice", data := .fields #[.none, .int 20 t2, .none] }) (fresh_key A2)
      refine tail_any (T := "list") (by obtain ⟨o, g, r⟩ := isl A3; exact ⟨o, g, r.1⟩) slot_list_getitem.lookup ?_ rfl
      refine wpAny_getItem_list_slice (s := { s' with heap := h2.push _, toks := t2 + 1 }) (items := vs.toArray) (isl A3) ⟨_, A3.N.get (.head _), rfl, rfl⟩ .none (.int 20 t2) .none (by intro z; cases z) ?_ (by rw [List.size_toArray, len, sizeLine_eq]; omega)
      have hip := kmk_upto (y := 20) hI (by decide)
      generalize hsp : slicePick vs.toArray Option.none (some 20) Option.none = sp at hip ⊢
      have A4 := A3.more (o := { cls := .type "list", data := .seq sp }) rfl
      have e4 := LW.more_ext (x := x2.more h2.objs.size { cls := .type "slice", data := .fields #[.none, .int 20 t2, .none] }) (o := { cls := .type "list", data := .seq sp }) (fresh_key A3)
      refine Calls.spliced_nil ⟨trivial, ?_⟩
      have g4 := A4.N.get (.head _)
      refine call_list_seq (s := { s' with heap := (h2.push _).push _, toks := t2 + 1 }) _ (.inl rfl) g4 rfl rfl (fun h5 c5 keep g5 => ?_) ?_
      · have eqo : ({ cls := .type "list", dict := Option.none, data := .seq sp c5, slots := #[] } : Obj) = lstO sp.toList c5 := by simp [lstO]
        rw [eqo] at g5
        obtain ⟨x5, A5, e5, q5⟩ := A4.growL keep g5 (ints_vrs hip)
        refine k _ (ns.take 20) h5 _ x5 ?_ ?_ A5 ((((e'.trans e2).trans e3).trans e4).trans e5) (.obj q5)
        · intro z
          have := congrArg List.length z
          rw [List.length_take, List.length_nil] at this
          omega
        · rw [List.length_take]; omega
      · have := hip.length
        rw [← Array.length_toList, this, List.length_take, sizeLine_eq]
        omega
    · have e1 : decide ((0 : Int) < ((vs.toArray.size : Nat) : Int)) = false := decide_eq_false (by rw [List.size_toArray, len]; omega)
      rw [e1, if_neg (by decide)]
      refine (Ev.listNew (W := S.W) (l := [.int 0]) (Evs.cons Ev.int Evs.nil (fun _ => rfl)) (by decide)) c O { s' with heap := h', toks := _ } m x' A' (F0.mono e') _ _ fun u h2 t2 x2 A2 e2 r2 => ?_
      exact k u [0] h2 t2 x2 (by simp) (by decide) A2 (e'.trans e2) r2
  refine wpAny_Assign_Name ?_ rfl
  refine List_ (spliced_more (wpAny_Constant_int ?_))
  refine spliced_more (num _ _ (fun u l h' t' x' l0 l1 A' e' r' => ?_) _)
  refine Calls.spliced_nil ?_
  refine PySem.wpAny_newList ?_ (by show 2 ≤ 2 ^ 24; decide)
  have fk := fresh_key A'
  have ex2 := LW.moreL_ext (x := x') (o := lstO [.int 0 s'.toks, u] 0) fk
  have A2 := A'.moreL (l := [.int 0, .obj 0]) (its := [.int 0 s'.toks, u]) (.cons (.int 0 _) (.cons r' .nil))
  have q1 : (x'.moreL h'.objs.size (lstO [.int 0 s'.toks, u] 0)).ad[1]? = some (h'.objs.size, h'.objs.size) := by
    have : x'.ad.length = 1 := A'.ok.len
    show (x'.ad ++ [_])[1]? = _
    rw [List.getElem?_append_right (by omega), this]; rfl
  generalize x'.moreL h'.objs.size (lstO [.int 0 s'.toks, u] 0) = x2 at ex2 A2 q1
  have e2 := e'.trans ex2
  have hown : ca ∉ x.own := by rw [A.ok.own]; simp [ownAll]
  have hc2 := e2.led _ hoc hown
  have ho2 : ca ∉ x2.own := e2.off hoc hown
  refine storeX_C (s := { s' with heap := h'.push (lstO [.int 0 s'.toks, u] 0), toks := t' }) A2.F A2.N hca (updF_setAt A2.ok.keys hc2) hd (fun h3 o3 F3 N3 hd3 => ?_) O.hk (by kernel_rfl)
  have k2 : ∀ {b : Addr} {o : Obj}, (b, o) ∈ x2.led → b ∈ x2.own → (b, o) ∈ (x2.put ca o3).led := fun hb hbo => mem_setAt_ne hb fun e => ho2 (by have e : _ = ca := e; exact e ▸ hbo)
  have A3 : At S.W c m (PH 0 l []) h3 (x2.put ca o3) := by
    refine ⟨F3, N3, ?_, A2.ok.own, A2.ok.nd, A2.ok.len, fun j Oj pj hj hpj => ?_⟩
    · show ((setAt x2.led ca o3).map (·.1)).Nodup
      rw [setAt_keys]; exact A2.ok.keys
    · have hpj : x2.ad[j]? = some pj := hpj
      match j, hj, hpj with
      | 0, hj, hpj =>
        cases hj
        obtain ⟨its, n, m1, hv⟩ := A2.ok.objs 0 _ pj rfl hpj
        exact ⟨its, n, k2 m1 (A2.owned (k := 0) rfl hpj (.head _)), ints_any hv⟩
      | 1, hj, hpj =>
        cases hj
        obtain ⟨its, n, m1, hv⟩ := A2.ok.objs 1 _ pj rfl hpj
        refine ⟨its, n, k2 m1 (A2.owned (k := 1) rfl hpj (.head _)), ?_⟩
        cases hv with
        | cons r1 hv =>
          cases hv with
          | cons r2 hv =>
            cases hv
            first | obtain rfl := VR.v r1 | obtain ⟨_, rfl⟩ := VR.i r1 | obtain rfl := VR.t r1 | obtain rfl := VR.n r1 | obtain ⟨_, rfl⟩ := VR.s r1 | cases r1
            cases r2 with
            | obj hq => exact .cons (.int _ _) (.cons (.obj hq) .nil)
      | j + 2, hj, _ => simp at hj
  have lnd : lawNs.Nodup := by decide +kernel
  refine k l l0 l1 h3 _ _ A3 ⟨lnd, fun y v lo => ?_⟩
  cases lo with
  | z => exact ⟨_, .inl ⟨hsc, hm⟩, .val _⟩
  | s lo =>
    cases lo with
    | z => exact ⟨_, .inr ⟨ca, o3, hca, mem_setAt_self hc2, ho2, hd3⟩, .obj (p := (h'.objs.size, h'.objs.size)) q1⟩
    | s lo => exact absurd lo (no_some (by decide))
end
end
section
open PySem PySem.W PyProof.Rows PySem.Calls PySem.Spec
noncomputable abbrev code0 : List AV := [.tup [.str "fail"], .tup [.str "halt"]]
theorem digL_ok {i : Int} {l : List Int} {lim : Int} (h0 : l ≠ []) (hl : l.length ≤ 20) : digL i l lim ≠ [] ∧ (digL i l lim).length ≤ 20 := by
  refine ⟨fun e => h0 ?_, by rw [digL_len]; exact hl⟩
  have := digL_len (i := i) (l := l) (lim := lim)
  rw [e] at this
  exact List.eq_nil_of_length_eq_zero this.symm
section
variable {S : St0}
theorem dig {i : Int} {l : List Int} {T : Hp} {lim : Int} (h0 : l ≠ []) (hl : l.length ≤ 20) (l0 : 0 < lim) (l1 : lim < 1000) : Cl S.W true 697 a__law_digit [.obj 1, .int lim] (PH i l T) (.int (digV i l lim)) (PH (i + 1) (digL i l lim) T) :=
  digit_ok (d := 695) (PH_at h0 hl) l0 l1
theorem ct_digits {scope : Scope} {elt : PySem.Expr} {fr : Fr2} {T : Hp} (he : ∀ (i : Int) (l : List Int) (acc : List AV) (v : AV), l ≠ [] → l.length ≤ 20 → EvC S.W 697 lawSc scope (T.length + 2 + 1) elt fr (PH i l T ++ [.list acc, .ns [(Str.ofString "_", v)]]) (.int (digV i l 3)) (PH (i + 1) (digL i l 3) T ++ [.list acc, .ns [(Str.ofString "_", v)]])) :
    ∀ (rest acc : List AV) (i : Int) (l : List Int), l ≠ [] → l.length ≤ 20 → ∃ (G : List Int) (i' : Int) (l' : List Int), G.length = rest.length ∧ l' ≠ [] ∧ l'.length ≤ 20 ∧ CT S.W 697 lawSc scope (Str.ofString "_") [] elt fr (T.length + 2) [] rest acc (PH i l T) (acc ++ G.map .int) (PH i' l' T)
  | [], acc, i, l, h0, hl => ⟨[], i, l, rfl, h0, hl, by simpa using CT.done⟩
  | v :: rest, acc, i, l, h0, hl => by
    obtain ⟨a1, a2⟩ := digL_ok (i := i) (lim := 3) h0 hl
    obtain ⟨G, i', l', e1, e2, e3, w⟩ := ct_digits he rest (acc ++ [.int (digV i l 3)]) (i + 1) (digL i l 3) a1 a2
    refine ⟨digV i l 3 :: G, i', l', by simp [e1], e2, e3, ?_⟩
    have e : acc ++ (digV i l 3 :: G).map .int = (acc ++ [.int (digV i l 3)]) ++ G.map .int := by simp
    rw [e]
    exact .take TstC.nil rfl (he i l acc v h0 hl) rfl w
theorem ct_digits0 {scope : Scope} {elt : PySem.Expr} {fr : Fr2} {T : Hp} (he : ∀ (i : Int) (l : List Int) (acc : List AV) (v : AV), l ≠ [] → l.length ≤ 20 → EvC S.W 697 lawSc scope (T.length + 2 + 1) elt fr (PH i l T ++ [.list acc, .ns [(Str.ofString "_", v)]]) (.int (digV i l 3)) (PH (i + 1) (digL i l 3) T ++ [.list acc, .ns [(Str.ofString "_", v)]]))
    (rest : List AV) {i : Int} {l : List Int} (h0 : l ≠ []) (hl : l.length ≤ 20) : ∃ (G : List Int) (i' : Int) (l' : List Int), G.length = rest.length ∧ l' ≠ [] ∧ l'.length ≤ 20 ∧ CT S.W 697 lawSc scope (Str.ofString "_") [] elt fr (T.length + 2) [] rest [] (PH i l T) (G.map .int) (PH i' l' T) := by
  obtain ⟨G, i', l', a, b, c, w⟩ := ct_digits he rest [] i l h0 hl
  exact ⟨G, i', l', a, b, c, by simpa using w⟩
theorem ph_bd {i i' : Int} {l l' : List Int} {T : Hp} : (∀ (j : Nat) (O : MO), (PH i l T)[j]? = some O → O.bd (PH i l T).length) → ∀ (j : Nat) (O : MO), (PH i' l' T)[j]? = some O → O.bd (PH i' l' T).length := by
  intro h j O hj
  match j, hj with
  | 0, hj => cases hj; exact bds_ints _
  | 1, hj =>
    cases hj
    show AV.bds _ [.int i', .obj 0]
    unfold AV.bds AV.bds AV.bds
    exact ⟨by unfold AV.bd; trivial, by unfold AV.bd; exact Nat.succ_pos _, trivial⟩
  | j + 2, hj => exact h (j + 2) O hj
noncomputable def lawAt (k : Nat) : PySem.Stmt := (lawBody[k]?).getD (.Pass ⟨0, 0, 0, 0⟩)
noncomputable def cpScope : PySem.Stmt → Scope
  | .Assign _ (.ListComp _ _ s _) _ => s
  | _ => default
noncomputable def cpElt : PySem.Stmt → PySem.Expr
  | .Assign _ (.ListComp e _ _ _) _ => e
  | _ => .Constant .none 0 ⟨0, 0, 0, 0⟩
theorem elt_ok {k : Nat} (hk : k = 2 ∨ k = 3) {ns : List Str} {vs : List (Option AV)} (lp : Loc ns vs (Str.ofString "pot") (.obj 1)) {T : Hp} : ∀ (i : Int) (l : List Int) (acc : List AV) (v : AV), l ≠ [] → l.length ≤ 20 → EvC S.W 697 lawSc (cpScope (lawAt k)) (T.length + 2 + 1) (cpElt (lawAt k)) (ns, vs) (PH i l T ++ [.list acc, .ns [(Str.ofString "_", v)]]) (.int (digV i l 3)) (PH (i + 1) (digL i l 3) T ++ [.list acc, .ns [(Str.ofString "_", v)]]) := by
  intro i l acc v h0 hl
  rcases hk with rfl | rfl
  · exact EvC.callFn (d := 696) (W := S.W) (EvC.glob (g_digit S.w.params) (fun _ => .val _) (by kernel_rfl) (by kernel_rfl) (by kernel_rfl)) (EvsC.cons (EvC.cell lp (by kernel_rfl) (by kernel_rfl) (by kernel_rfl) (by kernel_rfl)) (EvsC.cons EvC.int EvsC.nil (fun _ => rfl)) (fun _ => rfl)) (by kernel_rfl) (fun _ => rfl) (fun _ _ => rfl) (dig (T := T ++ [.list acc, .ns [(Str.ofString "_", v)]]) h0 hl (by decide) (by decide))
  · exact EvC.callFn (d := 696) (W := S.W) (EvC.glob (g_digit S.w.params) (fun _ => .val _) (by kernel_rfl) (by kernel_rfl) (by kernel_rfl)) (EvsC.cons (EvC.cell lp (by kernel_rfl) (by kernel_rfl) (by kernel_rfl) (by kernel_rfl)) (EvsC.cons EvC.int EvsC.nil (fun _ => rfl)) (fun _ => rfl)) (by kernel_rfl) (fun _ => rfl) (fun _ _ => rfl) (dig (T := T ++ [.list acc, .ns [(Str.ofString "_", v)]]) h0 hl (by decide) (by decide))
theorem law_s2 {a : Addr} {l : List Int} : Ex S.W true 697 lawSc (lawAt 1) (lawNs, [some (.val (.ref a)), some (.obj 1), none, none, none, none, none, none, none, none, none, none, none, none, none]) (PH 0 l []) .next (lawNs, [some (.val (.ref a)), some (.obj 1), some (.obj 2), none, none, none, none, none, none, none, none, none, none, none, none]) (PH 0 l [.list code0]) := by
  refine' Ex.assign (v := .obj 2) (Ev.catNew (l1 := [.tup [.str "fail"]]) (l2 := [.tup [.str "halt"]]) (H₁ := PH 0 l []) (H₂ := PH 0 l []) ?zc ?zl (by decide) rfl) (.s (.s .z)) (by kernel_rfl) (fun _ _ => rfl)
  case zl => exact Ev.flist (Evs.cons (Ev.tuple (Evs.cons Ev.str Evs.nil (fun _ => rfl)) (by decide)) Evs.nil (fun _ => rfl)) (by decide)
  case zc =>
    refine' Ev.comp (H₁ := PH 0 l []) (items := rangeV 0 1) (acc' := [.tup [.str "fail"]]) (Src.range (n := 1) (ev_range (by kernel_rfl)) (ev_HALT_ADDRESS (by kernel_rfl)) rfl (by decide) (by decide) (fun _ => rfl)) ?zw (by decide) ?zst (fun h => h) ?zb (fun _ _ => rfl)
    case zst => exact ⟨by decide +kernel, by kernel_rfl, by decide +kernel, by kernel_rfl, by kernel_rfl⟩
    case zb =>
      show AV.bds _ [.tup [.str "fail"]]
      simp [AV.bds, AV.bd]
    case zw =>
      exact .take (r := .tup [.str "fail"]) (acc := []) TstC.nil rfl (EvC.tuple (EvsC.cons EvC.str EvsC.nil (fun _ => rfl)) (by decide)) rfl .done
end
end
section
open PySem PySem.W PyProof.Rows PySem.Calls PySem.Spec
section
variable {S : St0} {a : Addr} {i : Int} {l : List Int}
theorem law_s3  (h0 : l ≠ []) (hl : l.length ≤ 20) : ∃ (G : List Int) (i' : Int) (l' : List Int), G.length = (1 + digV i l 2).toNat ∧ l' ≠ [] ∧ l'.length ≤ 20 ∧ Ex S.W true 697 lawSc (lawAt 2) (lawNs, [some (.val (.ref a)), some (.obj 1), some (.obj 2), none, none, none, none, none, none, none, none, none, none, none, none]) (PH i l [.list code0]) .next (lawNs, [some (.val (.ref a)), some (.obj 1), some (.obj 2), some (.fl (G.map .int)), none, none, none, none, none, none, none, none, none, none, none]) (PH i' l' [.list code0]) := by
  have db := digV_bounds (i := i) (l := l) (lim := 2) (by decide)
  obtain ⟨a1, a2⟩ := digL_ok (i := i) (lim := 2) h0 hl
  have lp : Loc lawNs ((lawNs, [some (.val (.ref a)), some (.obj 1), some (.obj 2), none, none, none, none, none, none, none, none, none, none, none, none])).2 (Str.ofString "pot") (.obj 1) := (.s .z)
  obtain ⟨G, i', l', e1, e2, e3, w⟩ := ct_digits0 (S := S) (T := [.list code0]) (elt_ok (S := S) (k := 2) (by decide) lp) (rangeV 0 (1 + digV i l 2).toNat) (i := i + 1) a1 a2
  refine ⟨G, i', l', by rw [e1]; unfold rangeV; simp, e2, e3, ?_⟩
  refine' Ex.comp (H₁ := PH (i + 1) (digL i l 2) [.list code0]) (items := rangeV 0 (1 + digV i l 2).toNat) (acc' := G.map .int) (Src.range (n := (1 + digV i l 2).toNat) (ev_range (by kernel_rfl)) (Ev.add Ev.int (Ev.callFn (d := 696) (W := S.W) (ev__law_digit (by kernel_rfl)) (Evs.cons (Ev.ofCell (v := .obj 1) (.s .z) (by kernel_rfl) (by kernel_rfl)) (Evs.cons Ev.int Evs.nil (fun _ => rfl)) (fun _ => rfl)) (by kernel_rfl) (fun _ => rfl) (fun _ _ => rfl) (dig (T := [.list code0]) (lim := 2) h0 hl (by decide) (by decide)))) rfl (by omega) (by omega) (fun _ => rfl)) w ?zi ?zst ph_bd (bds_ints _) (fun _ _ => rfl) (.s (.s (.s .z))) (by kernel_rfl) (fun _ => rfl)
  case zi => unfold rangeV; simp; omega
  case zst => exact ⟨by decide +kernel, by kernel_rfl, by decide +kernel, by kernel_rfl, by kernel_rfl⟩
theorem law_s4 {F : List Int} (h0 : l ≠ []) (hl : l.length ≤ 20) : ∃ (G : List Int) (i' : Int) (l' : List Int), G.length = (1 + digV i l 3).toNat ∧ l' ≠ [] ∧ l'.length ≤ 20 ∧ Ex S.W true 697 lawSc (lawAt 3) (lawNs, [some (.val (.ref a)), some (.obj 1), some (.obj 2), some (.fl (F.map .int)), none, none, none, none, none, none, none, none, none, none, none]) (PH i l [.list code0]) .next (lawNs, [some (.val (.ref a)), some (.obj 1), some (.obj 2), some (.fl (F.map .int)), some (.fl (G.map .int)), none, none, none, none, none, none, none, none, none, none]) (PH i' l' [.list code0]) := by
  have db := digV_bounds (i := i) (l := l) (lim := 3) (by decide)
  obtain ⟨a1, a2⟩ := digL_ok (i := i) (lim := 3) h0 hl
  have lp : Loc lawNs ((lawNs, [some (.val (.ref a)), some (.obj 1), some (.obj 2), some (.fl (F.map .int)), none, none, none, none, none, none, none, none, none, none, none])).2 (Str.ofString "pot") (.obj 1) := (.s .z)
  obtain ⟨G, i', l', e1, e2, e3, w⟩ := ct_digits0 (S := S) (T := [.list code0]) (elt_ok (S := S) (k := 3) (by decide) lp) (rangeV 0 (1 + digV i l 3).toNat) (i := i + 1) a1 a2
  refine ⟨G, i', l', by rw [e1]; unfold rangeV; simp, e2, e3, ?_⟩
  refine' Ex.comp (H₁ := PH (i + 1) (digL i l 3) [.list code0]) (items := rangeV 0 (1 + digV i l 3).toNat) (acc' := G.map .int) (Src.range (n := (1 + digV i l 3).toNat) (ev_range (by kernel_rfl)) (Ev.add Ev.int (Ev.callFn (d := 696) (W := S.W) (ev__law_digit (by kernel_rfl)) (Evs.cons (Ev.ofCell (v := .obj 1) (.s .z) (by kernel_rfl) (by kernel_rfl)) (Evs.cons Ev.int Evs.nil (fun _ => rfl)) (fun _ => rfl)) (by kernel_rfl) (fun _ => rfl) (fun _ _ => rfl) (dig (T := [.list code0]) (lim := 3) h0 hl (by decide) (by decide)))) rfl (by omega) (by omega) (fun _ => rfl)) w ?zi ?zst ph_bd (bds_ints _) (fun _ _ => rfl) (.s (.s (.s (.s .z)))) (by kernel_rfl) (fun _ => rfl)
  case zi => unfold rangeV; simp; omega
  case zst => exact ⟨by decide +kernel, by kernel_rfl, by decide +kernel, by kernel_rfl, by kernel_rfl⟩
theorem law_s5 {F G : List Int} (h0 : l ≠ []) (hl : l.length ≤ 20) : Ex S.W true 697 lawSc (lawAt 4) (lawNs, [some (.val (.ref a)), some (.obj 1), some (.obj 2), some (.fl (F.map .int)), some (.fl (G.map .int)), none, none, none, none, none, none, none, none, none, none]) (PH i l [.list code0]) .next (lawNs, [some (.val (.ref a)), some (.obj 1), some (.obj 2), some (.fl (F.map .int)), some (.fl (G.map .int)), some (.bool (decide (digV i l 3 = 1))), none, none, none, none, none, none, none, none, none]) (PH (i + 1) (digL i l 3) [.list code0]) := by
  exact Ex.assign (v := .bool (decide (digV i l 3 = 1))) (Ev.cmp (d := 696) (Ev.callFn (d := 696) (W := S.W) (ev__law_digit (by kernel_rfl)) (Evs.cons (Ev.ofCell (v := .obj 1) (.s .z) (by kernel_rfl) (by kernel_rfl)) (Evs.cons Ev.int Evs.nil (fun _ => rfl)) (fun _ => rfl)) (by kernel_rfl) (fun _ => rfl) (fun _ _ => rfl) (dig (T := [.list code0]) (lim := 3) h0 hl (by decide) (by decide))) Ev.int CmpR.eqI rfl) (.s (.s (.s (.s (.s .z))))) (by kernel_rfl) (fun _ _ => rfl)
theorem law_s6 {F G : List Int} {cuts : Bool} (h0 : l ≠ []) (hl : l.length ≤ 20) : Ex S.W true 697 lawSc (lawAt 5) (lawNs, [some (.val (.ref a)), some (.obj 1), some (.obj 2), some (.fl (F.map .int)), some (.fl (G.map .int)), some (.bool cuts), none, none, none, none, none, none, none, none, none]) (PH i l [.list code0]) .next (lawNs, [some (.val (.ref a)), some (.obj 1), some (.obj 2), some (.fl (F.map .int)), some (.fl (G.map .int)), some (.bool cuts), some (.int (3 - digV i l 4)), none, none, none, none, none, none, none, none]) (PH (i + 1) (digL i l 4) [.list code0]) := by
  exact Ex.assign (v := .int (3 - digV i l 4)) (Ev.sub Ev.int (Ev.callFn (d := 696) (W := S.W) (ev__law_digit (by kernel_rfl)) (Evs.cons (Ev.ofCell (v := .obj 1) (.s .z) (by kernel_rfl) (by kernel_rfl)) (Evs.cons Ev.int Evs.nil (fun _ => rfl)) (fun _ => rfl)) (by kernel_rfl) (fun _ => rfl) (fun _ _ => rfl) (dig (T := [.list code0]) (lim := 4) h0 hl (by decide) (by decide)))) (.s (.s (.s (.s (.s (.s .z)))))) (by kernel_rfl) (fun _ _ => rfl)
noncomputable abbrev cd1 (F : List Int) : List AV := code0 ++ factsV 2 F
noncomputable abbrev cd2 (F G : List Int) : List AV := cd1 F ++ factsV ((cd1 F).length : Nat) G
noncomputable abbrev cd3 (F G : List Int) (cuts : Bool) : List AV := cd2 F G ++ ruleV cuts
noncomputable abbrev en1 : List (Int × AV) := [(1, .int 2)]
noncomputable abbrev en2 (F : List Int) : List (Int × AV) := [(1, .int 2), (2, .int ((cd1 F).length : Nat))]
noncomputable abbrev en3 (F G : List Int) : List (Int × AV) := [(1, .int 2), (2, .int ((cd1 F).length : Nat)), (0, .int ((cd2 F G).length : Nat))]
theorem conV_len (G : List Int) : (G.flatMap conV).length = 2 * G.length := by
  induction G with
  | nil => rfl
  | cons w G ih => rw [List.flatMap_cons, List.length_append, ih, List.length_cons]; show 2 + _ = _; omega
theorem factsV_len {st : Int} {G : List Int} (h : G.length ≤ 20) : (factsV st G).length ≤ 60 := by
  unfold factsV
  rw [List.length_append, conV_len]
  split
  · rw [List.length_map, List.length_range']; omega
  · simp; omega
theorem law_s7 {F G : List Int} {cuts : Bool} {q : Int} (hF : F.length ≤ 20) : Ex S.W true 697 lawSc (lawAt 6) (lawNs, [some (.val (.ref a)), some (.obj 1), some (.obj 2), some (.fl (F.map .int)), some (.fl (G.map .int)), some (.bool cuts), some (.int q), none, none, none, none, none, none, none, none]) (PH i l [.list code0]) .next (lawNs, [some (.val (.ref a)), some (.obj 1), some (.obj 2), some (.fl (F.map .int)), some (.fl (G.map .int)), some (.bool cuts), some (.int q), some (.obj 3), none, none, none, none, none, none, none]) (PH i l [.list (cd1 F), .idict en1]) := by
  have hf := facts_ok (S := S) (d := 694) (H := PH i l [.list code0, .idict []]) (kc := 2) (L := code0) (G := F) rfl hF (by decide)
  exact Ex.assign (v := .obj 3) (Ev.idict1 (v := .int 2) (i := 1) (H₁ := PH i l [.list (cd1 F)]) Ev.int (Ev.callFn (d := 696) (W := S.W) (ev__law_facts (by kernel_rfl)) (Evs.cons (Ev.ofLocal (v := .obj 2) (.s (.s .z)) (by kernel_rfl) (by kernel_rfl)) (Evs.cons (Ev.ofLocal (v := .fl (F.map .int)) (.s (.s (.s .z))) (by kernel_rfl) (by kernel_rfl)) Evs.nil (fun _ => rfl)) (fun _ => rfl)) (by kernel_rfl) (fun _ => rfl) (fun _ _ => rfl) hf) rfl rfl) (.s (.s (.s (.s (.s (.s (.s .z))))))) (by kernel_rfl) (fun _ _ => rfl)
theorem law_s8 {F G : List Int} {cuts : Bool} {q : Int} (hF : F.length ≤ 20) (hG : G.length ≤ 20) : Ex S.W true 697 lawSc (lawAt 7) (lawNs, [some (.val (.ref a)), some (.obj 1), some (.obj 2), some (.fl (F.map .int)), some (.fl (G.map .int)), some (.bool cuts), some (.int q), some (.obj 3), none, none, none, none, none, none, none]) (PH i l [.list (cd1 F), .idict en1]) .next (lawNs, [some (.val (.ref a)), some (.obj 1), some (.obj 2), some (.fl (F.map .int)), some (.fl (G.map .int)), some (.bool cuts), some (.int q), some (.obj 3), none, none, none, none, none, none, none]) (PH i l [.list (cd2 F G), .idict (en2 F)]) := by
  have hf := facts_ok (S := S) (d := 694) (H := PH i l [.list (cd1 F), .idict en1]) (kc := 2) (L := cd1 F) (G := G) rfl hG (by rw [List.length_append]; have := factsV_len (st := 2) hF; show 2 + _ ≤ 200; omega)
  exact Ex.setI (v := .int ((cd1 F).length : Nat)) (k := 3) (n := 2) (l := en1) (l' := en2 F) (H₃ := PH i l [.list (cd2 F G), .idict en1]) (Ev.callFn (d := 696) (W := S.W) (ev__law_facts (by kernel_rfl)) (Evs.cons (Ev.ofLocal (v := .obj 2) (.s (.s .z)) (by kernel_rfl) (by kernel_rfl)) (Evs.cons (Ev.ofLocal (v := .fl (G.map .int)) (.s (.s (.s (.s .z)))) (by kernel_rfl) (by kernel_rfl)) Evs.nil (fun _ => rfl)) (fun _ => rfl)) (by kernel_rfl) (fun _ => rfl) (fun _ _ => rfl) hf) (Ev.ofLocal (v := .obj 3) (.s (.s (.s (.s (.s (.s (.s .z))))))) (by kernel_rfl) (by kernel_rfl)) Ev.int rfl (by show _ ≤ 1000; exact Nat.le_of_ble_eq_true rfl) rfl (fun _ _ => rfl) rfl
theorem law_s9 {F G : List Int} {cuts : Bool} {q : Int} (hF : F.length ≤ 20) (hG : G.length ≤ 20) : Ex S.W true 697 lawSc (lawAt 8) (lawNs, [some (.val (.ref a)), some (.obj 1), some (.obj 2), some (.fl (F.map .int)), some (.fl (G.map .int)), some (.bool cuts), some (.int q), some (.obj 3), none, none, none, none, none, none, none]) (PH i l [.list (cd2 F G), .idict (en2 F)]) .next (lawNs, [some (.val (.ref a)), some (.obj 1), some (.obj 2), some (.fl (F.map .int)), some (.fl (G.map .int)), some (.bool cuts), some (.int q), some (.obj 3), none, none, none, none, none, none, none]) (PH i l [.list (cd3 F G cuts), .idict (en3 F G)]) := by
  have hf := rule_ok (S := S) (d := 694) (H := PH i l [.list (cd2 F G), .idict (en2 F)]) (kc := 2) (L := cd2 F G) (cuts := cuts) rfl (by
    have h1 := factsV_len (st := 2) hF
    have h2 := factsV_len (st := ((cd1 F).length : Nat)) hG
    show (code0 ++ factsV 2 F ++ factsV ((cd1 F).length : Nat) G).length ≤ 200
    have e : (code0 ++ factsV 2 F ++ factsV ((cd1 F).length : Nat) G).length = 2 + (factsV 2 F).length + (factsV ((cd1 F).length : Nat) G).length := by rw [List.length_append (as := code0 ++ factsV 2 F), List.length_append (as := code0)]; rfl
    omega)
  exact Ex.setI (v := .int ((cd2 F G).length : Nat)) (k := 3) (n := 0) (l := en2 F) (l' := en3 F G) (H₃ := PH i l [.list (cd3 F G cuts), .idict (en2 F)]) (Ev.callFn (d := 696) (W := S.W) (ev__law_rule (by kernel_rfl)) (Evs.cons (Ev.ofLocal (v := .obj 2) (.s (.s .z)) (by kernel_rfl) (by kernel_rfl)) (Evs.cons (Ev.ofLocal (v := .bool cuts) (.s (.s (.s (.s (.s .z))))) (by kernel_rfl) (by kernel_rfl)) Evs.nil (fun _ => rfl)) (fun _ => rfl)) (by kernel_rfl) (fun _ => rfl) (fun _ _ => rfl) hf) (Ev.ofLocal (v := .obj 3) (.s (.s (.s (.s (.s (.s (.s .z))))))) (by kernel_rfl) (by kernel_rfl)) Ev.int rfl (by show _ ≤ 1000; exact Nat.le_of_ble_eq_true rfl) rfl (fun _ _ => rfl) rfl
noncomputable abbrev HS (i : Int) (l : List Int) (C : List AV) (E : List (Int × AV)) : Hp := PH i l [.list C, .idict E, .sdict tbl]
theorem law_s10 {F G : List Int} {cuts : Bool} {q : Int} {C : List AV} {E : List (Int × AV)} (h0 : l ≠ []) (hl : l.length ≤ 20) : Ex S.W true 697 lawSc (lawAt 9) (lawNs, [some (.val (.ref a)), some (.obj 1), some (.obj 2), some (.fl (F.map .int)), some (.fl (G.map .int)), some (.bool cuts), some (.int q), some (.obj 3), none, none, none, none, none, none, none]) (PH i l [.list C, .idict E]) .next (lawNs, [some (.val (.ref a)), some (.obj 1), some (.obj 2), some (.fl (F.map .int)), some (.fl (G.map .int)), some (.bool cuts), some (.int q), some (.obj 3), some (.obj 5), none, none, none, none, none, none]) (MH (HS (i + 1) (digL i l 12) C E) (m0 4 2 3 (digV i l 12)) []) := by
  exact Ex.assign (v := .obj 5) (Ev.newEmu (d := 686) (H₁ := PH (i + 1) (digL i l 12) [.list C, .idict E]) (kc := 2) (ke := 3) (mx := digV i l 12) (by kernel_rfl) (Evs.cons Ev.none (Evs.cons (Ev.ofLocal (v := .obj 2) (.s (.s .z)) (by kernel_rfl) (by kernel_rfl)) (Evs.cons (Ev.ofLocal (v := .obj 3) (.s (.s (.s (.s (.s (.s (.s .z))))))) (by kernel_rfl) (by kernel_rfl)) (Evs.cons (Ev.callFn (d := 696) (W := S.W) (ev__law_digit (by kernel_rfl)) (Evs.cons (Ev.ofCell (v := .obj 1) (.s .z) (by kernel_rfl) (by kernel_rfl)) (Evs.cons Ev.int Evs.nil (fun _ => rfl)) (fun _ => rfl)) (by kernel_rfl) (fun _ => rfl) (fun _ _ => rfl) (dig (T := [.list C, .idict E]) (lim := 12) h0 hl (by decide) (by decide))) Evs.nil (fun _ => rfl)) (fun _ => rfl)) (fun _ => rfl)) (fun _ => rfl)) (fun _ => rfl) (fun _ _ => rfl) ph_bd rfl (by show 2 < 4; decide) (by show 3 < 4; decide)) (.s (.s (.s (.s (.s (.s (.s (.s .z)))))))) (by kernel_rfl) (fun _ _ => rfl)
noncomputable abbrev HG (i : Int) (l : List Int) (C : List AV) (E : List (Int × AV)) (ms : Mc) : Hp := MH (HS i l C E) ms [.sdict tbl]
theorem law_s11 {F G : List Int} {cuts : Bool} {q : Int} {C : List AV} {E : List (Int × AV)} {ms : Mc} : Ex S.W true 697 lawSc (lawAt 10) (lawNs, [some (.val (.ref a)), some (.obj 1), some (.obj 2), some (.fl (F.map .int)), some (.fl (G.map .int)), some (.bool cuts), some (.int q), some (.obj 3), some (.obj 5), none, none, none, none, none, none]) (MH (HS i l C E) ms []) .next (lawNs, [some (.val (.ref a)), some (.obj 1), some (.obj 2), some (.fl (F.map .int)), some (.fl (G.map .int)), some (.bool cuts), some (.int q), some (.obj 3), some (.obj 5), some (.obj 12), none, none, none, none, none]) (MH (HG i l C E ms) (m0 11 2 3 5000) []) := by
  exact Ex.assign (v := .obj 12) (Ev.newEmu (d := 686) (H₁ := MH (HS i l C E) ms []) (kc := 2) (ke := 3) (mx := 5000) (by kernel_rfl) (Evs.cons Ev.none (Evs.cons (Ev.ofLocal (v := .obj 2) (.s (.s .z)) (by kernel_rfl) (by kernel_rfl)) (Evs.cons (Ev.ofLocal (v := .obj 3) (.s (.s (.s (.s (.s (.s (.s .z))))))) (by kernel_rfl) (by kernel_rfl)) (Evs.cons Ev.int Evs.nil (fun _ => rfl)) (fun _ => rfl)) (fun _ => rfl)) (fun _ => rfl)) (fun _ => rfl) (fun _ _ => rfl) (fun h => h) rfl (by show 2 < 11; decide) (by show 3 < 11; decide)) (.s (.s (.s (.s (.s (.s (.s (.s (.s .z))))))))) (by kernel_rfl) (fun _ _ => rfl)
theorem law_s12 {F G : List Int} {cuts : Bool} {q : Int} {C : List AV} {E : List (Int × AV)} {ms mg : Mc} : Ex S.W true 697 lawSc (lawAt 11) (lawNs, [some (.val (.ref a)), some (.obj 1), some (.obj 2), some (.fl (F.map .int)), some (.fl (G.map .int)), some (.bool cuts), some (.int q), some (.obj 3), some (.obj 5), some (.obj 12), none, none, none, none, none]) (MH (HG i l C E ms) mg []) .next (lawNs, [some (.val (.ref a)), some (.obj 1), some (.obj 2), some (.fl (F.map .int)), some (.fl (G.map .int)), some (.bool cuts), some (.int q), some (.obj 3), some (.obj 5), some (.obj 12), some (.obj 18), none, none, none, none]) (MH (HG i l C E ms) mg [.list []]) := by
  exact Ex.assign (v := .obj 18) (Ev.listNewE (k := 18) (l := []) Evs.nil (by decide) rfl rfl) (.s (.s (.s (.s (.s (.s (.s (.s (.s (.s .z)))))))))) (by kernel_rfl) (fun _ _ => rfl)
end
end
section
open PySem PySem.W PyProof.Rows PySem.Calls PySem.Spec
noncomputable abbrev stM (m : Mc) (c : AV) (hp : List AV) (st : Int) : Mc := { m with xs := [voidV, c], hp := hp, e := -1, b := -1, hb := 0, bb := 0, b0 := -1, cp := 1, halted := false, failed := false, p := st }
noncomputable abbrev celV (q : Int) : AV := if q = 3 then .tup [.int 0, .int 0] else .tup [.int 5, .int q]
noncomputable abbrev hpV (q : Int) : List AV := if q = 3 then [.tup [.int 0, .int 0]] else []
noncomputable def lawB13 : List PySem.Stmt := match lawAt 12 with
  | .For _ _ b _ _ => b
  | _ => []
section
variable {S : St0} {a : Addr}
theorem start_turn {F G : List Int} {cuts : Bool} {q : Int} {H1 : Hp} {X : List AV → Hp} {m : Mc} {L : List AV} {E : List (Int × AV)} {st : Int} (hx : m.xs = [voidV]) (hh : m.hp = []) (hat : ∀ (m : Mc) (L : List AV), (MH H1 m (X L))[18]? = some (.list L)) (hset : ∀ (m : Mc) (L L' : List AV), (MH H1 m (X L)).set 18 (.list L') = MH H1 m (X L'))
    (hE : H1[m.ke]? = some (.idict E)) (hm : ((0 : Int), AV.int st) ∈ E) (hl : L.length ≤ 10) (hsl : sliceV (L ++ [celV q]) (some (-1)) Option.none Option.none = [celV q]) :
    Exs S.W true 697 lawSc lawB13 (lawNs, [some (.val (.ref a)), some (.obj 1), some (.obj 2), some (.fl (F.map .int)), some (.fl (G.map .int)), some (.bool cuts), some (.int q), some (.obj 3), some (.obj 5), some (.obj 12), some (.obj 18), some (.obj H1.length), none, none, none]) (MH H1 m (X L)) .next (lawNs, [some (.val (.ref a)), some (.obj 1), some (.obj 2), some (.fl (F.map .int)), some (.fl (G.map .int)), some (.bool cuts), some (.int q), some (.obj 3), some (.obj 5), some (.obj 12), some (.obj 18), some (.obj H1.length), none, none, none]) (MH H1 (stM m (celV q) (hpV q) st) (X (L ++ [celV q]))) := by
  refine' Exs.next (H₁ := MH H1 { m with hp := hpV q } (X (L ++ [celV q]))) (Ex.expr (Ev.appendE (v := celV q) (H₁ := MH H1 m (X L)) (H₂ := MH H1 { m with hp := hpV q } (X L)) (Ev.ofLocal (v := .obj 18) (.s (.s (.s (.s (.s (.s (.s (.s (.s (.s .z)))))))))) (by kernel_rfl) (by kernel_rfl)) ?ze (hat _ _) (hat _ _) (by omega) (fun _ => rfl) (fun _ => rfl) rfl (fun _ => rfl) (hset _ _ _)) (fun _ q => by unfold interactive; rw [q]; rfl) (fun _ _ => rfl)) ?zk
  case ze =>
    by_cases c : q = 3
    · have e1 : celV q = .tup [.int 0, .int 0] := if_pos c
      have e2 : hpV q = [.tup [.int 0, .int 0]] := if_pos c
      rw [e1, e2]
      refine' Ev.ifT (H₁ := MH H1 m (X L)) (Ts.eq (Ts.cmp (d := 696) (v := .int q) (v' := .int 3) (Ev.ofLocal (v := .int q) (.s (.s (.s (.s (.s (.s .z)))))) (by kernel_rfl) (by kernel_rfl)) Ev.int CmpR.eqI rfl) (decide_eq_true c)) ?zt
      case zt =>
        have nv := new_var_ok (S := S) (b := true) (d := 692) (H1 := H1) (H2 := X L) (m := m) (by rw [hh]; decide)
        rw [hh] at nv
        exact Ev.callMeth0 (d := 696) (Ev.attr (p := _) (Ev.ofLocal (v := .obj H1.length) (.s (.s (.s (.s (.s (.s (.s (.s (.s (.s (.s .z))))))))))) (by kernel_rfl) (by kernel_rfl)) MH0 (n := Str.ofString "store") (v := .obj (H1.length + 1)) (by repeat (first | exact List.mem_cons_self | refine List.mem_cons_of_mem _ ?_)) (emu_nd _ _) (by kernel_rfl) rfl (fun _ _ => rfl)) MH1 (nm_sto (by kernel_rfl)) (mt_Store_new_var S.w.params) (fun _ => ⟨_, rfl⟩) nv
    · have e1 : celV q = .tup [.int 5, .int q] := if_neg c
      have e2 : hpV q = [] := if_neg c
      rw [e1, e2]
      have e3 : ({ m with hp := [] } : Mc) = m := by rw [← hh]
      rw [e3]
      exact Ev.ifF (H₁ := MH H1 m (X L)) (Ts.eq (Ts.cmp (d := 696) (v := .int q) (v' := .int 3) (Ev.ofLocal (v := .int q) (.s (.s (.s (.s (.s (.s .z)))))) (by kernel_rfl) (by kernel_rfl)) Ev.int CmpR.eqI rfl) (decide_eq_false c)) (Ev.tuple (Evs.cons (ev_INT (by kernel_rfl)) (Evs.cons (Ev.ofLocal (v := .int q) (.s (.s (.s (.s (.s (.s .z)))))) (by kernel_rfl) (by kernel_rfl)) Evs.nil (fun _ => rfl)) (fun _ => rfl)) (by show 2 ≤ 1000; decide))
  case zk =>
  have sa := start_at_ok (S := S) (d := 690) (H1 := H1) (H2 := X (L ++ [celV q])) (m := { m with hp := hpV q }) (c := celV q) (a := st) (l := E) hE hm
  have e4 : (({ m with hp := hpV q } : Mc).w_xs [voidV]) = { m with hp := hpV q } := by
    show ({ m with hp := hpV q, xs := [voidV] } : Mc) = { m with hp := hpV q }
    rw [← hx]
  rw [e4] at sa
  refine' Exs.next (Ex.expr (Ev.callMeth (d := 696) (vs := [.int 0, .fl [celV q]]) (H₁ := MH H1 { m with hp := hpV q } (X (L ++ [celV q]))) (H₂ := MH H1 { m with hp := hpV q } (X (L ++ [celV q]))) (Ev.ofLocal (v := .obj H1.length) (.s (.s (.s (.s (.s (.s (.s (.s (.s (.s (.s .z))))))))))) (by kernel_rfl) (by kernel_rfl)) MH0 (nm_emu (by kernel_rfl)) (mt_Emulator_start_at S.w.params) ?za (fun _ => rfl) (fun _ _ => rfl) (fun _ => ⟨_, rfl⟩) sa) (fun _ q => by unfold interactive; rw [q]; rfl) (fun _ _ => rfl)) Exs.nil
  case za =>
    refine' Evs.cons Ev.int (Evs.cons ?zs Evs.nil (fun _ => rfl)) (fun _ => rfl)
    case zs =>
      exact Ev.eq (Ev.slice (i := some (-1)) (j := Option.none) (k := 18) (l := L ++ [celV q]) (H₂ := MH H1 { m with hp := hpV q } (X (L ++ [celV q]))) (Ev.ofLocal (v := .obj 18) (.s (.s (.s (.s (.s (.s (.s (.s (.s (.s .z)))))))))) (by kernel_rfl) (by kernel_rfl)) (show Ev _ _ _ _ _ _ _ _ _ from Ev.neg Ev.int) (show _ = _ from rfl) (hat _ _) (by rw [List.length_append]; show _ + 1 ≤ 100000; omega)) (congrArg AV.fl hsl)
noncomputable abbrev SR (mg : Mc) (cs : Hp) : Hp := .sdict tbl :: .inst c_Emulator (emuFs 12 mg) :: .inst c_Store (stoFs 12 mg) :: .list mg.xs :: .list mg.hp :: .list mg.stk :: .list mg.trl :: cs
theorem sl_0 (c : AV) : sliceV ([] ++ [c]) (some (-1)) Option.none Option.none = [c] := by
  have hb : sliceBounds (some (-1)) Option.none Option.none ([] ++ [c]).length = (0, 1, 1) := by show sliceBounds (some (-1)) Option.none Option.none 1 = _; decide
  unfold sliceV
  rw [hb]
  rfl
theorem sl_1 (b c : AV) : sliceV ([b] ++ [c]) (some (-1)) Option.none Option.none = [c] := by
  have hb : sliceBounds (some (-1)) Option.none Option.none ([b] ++ [c]).length = (1, 2, 1) := by show sliceBounds (some (-1)) Option.none Option.none 2 = _; decide
  unfold sliceV
  rw [hb]
  rfl
theorem law_s13 {F G : List Int} {cuts : Bool} {q : Int} {i : Int} {l : List Int} {C : List AV} {E : List (Int × AV)} {ms mg : Mc} {st : Int} (hs : ms.xs = [voidV]) (hg : mg.xs = [voidV]) (hs2 : ms.hp = []) (hg2 : mg.hp = []) (hs3 : ms.ke = 3) (hg3 : mg.ke = 3) (hm : ((0 : Int), AV.int st) ∈ E) :
    Ex S.W true 697 lawSc (lawAt 12) (lawNs, [some (.val (.ref a)), some (.obj 1), some (.obj 2), some (.fl (F.map .int)), some (.fl (G.map .int)), some (.bool cuts), some (.int q), some (.obj 3), some (.obj 5), some (.obj 12), some (.obj 18), none, none, none, none]) (MH (HG i l C E ms) mg [.list []]) .next (lawNs, [some (.val (.ref a)), some (.obj 1), some (.obj 2), some (.fl (F.map .int)), some (.fl (G.map .int)), some (.bool cuts), some (.int q), some (.obj 3), some (.obj 5), some (.obj 12), some (.obj 18), some (.obj 12), none, none, none]) (MH (HG i l C E (stM ms (celV q) (hpV q) st)) (stM mg (celV q) (hpV q) st) [.list [celV q, celV q]]) := by
  refine' Ex.forList (l := [.obj 5, .obj 12]) (Ev.flist (Evs.cons (Ev.ofLocal (v := .obj 5) (.s (.s (.s (.s (.s (.s (.s (.s .z)))))))) (by kernel_rfl) (by kernel_rfl)) (Evs.cons (Ev.ofLocal (v := .obj 12) (.s (.s (.s (.s (.s (.s (.s (.s (.s .z))))))))) (by kernel_rfl) (by kernel_rfl)) Evs.nil (fun _ => rfl)) (fun _ => rfl)) (by decide)) ?zw (by kernel_rfl) (fun _ _ => rfl)
  case zw =>
    refine' FT.turn (v := .obj 5) (fr₁ := (lawNs, [some (.val (.ref a)), some (.obj 1), some (.obj 2), some (.fl (F.map .int)), some (.fl (G.map .int)), some (.bool cuts), some (.int q), some (.obj 3), some (.obj 5), some (.obj 12), some (.obj 18), some (.obj 5), none, none, none])) (H₁ := MH (HG i l C E (stM ms (celV q) (hpV q) st)) mg [.list [celV q]]) (.s (.s (.s (.s (.s (.s (.s (.s (.s (.s (.s .z))))))))))) ?zb (FT.turn (v := .obj 12) (fr₁ := (lawNs, [some (.val (.ref a)), some (.obj 1), some (.obj 2), some (.fl (F.map .int)), some (.fl (G.map .int)), some (.bool cuts), some (.int q), some (.obj 3), some (.obj 5), some (.obj 12), some (.obj 18), some (.obj 12), none, none, none])) (H₁ := MH (HG i l C E (stM ms (celV q) (hpV q) st)) (stM mg (celV q) (hpV q) st) [.list [celV q, celV q]]) (.s (.s (.s (.s (.s (.s (.s (.s (.s (.s (.s .z))))))))))) ?zc .done)
    case zb => exact start_turn (H1 := HS i l C E) (X := fun L => SR mg [.list L]) (m := ms) (L := []) hs hs2 (fun _ _ => rfl) (fun _ _ _ => rfl) (by rw [hs3]; rfl) hm (by decide) (sl_0 _)
    case zc => exact start_turn (H1 := HG i l C E (stM ms (celV q) (hpV q) st)) (X := fun L => [.list L]) (m := mg) (L := [celV q]) hg hg2 (fun _ _ => rfl) (fun _ _ _ => rfl) (by rw [hg3]; rfl) hm (by show 1 ≤ 10; decide) (sl_1 _ _)
end
end
section
open PySem PySem.W PyProof.Rows PySem.Calls PySem.Spec
noncomputable def lawB15 : List PySem.Stmt := match lawAt 14 with
  | .For _ _ b _ _ => b
  | _ => []
noncomputable abbrev LH (ρ : Nat → Int) (i : Int) (l : List Int) (C : List AV) (E : List (Int × AV)) (mx : Int) (t : TM) (tg : TM) (cv : AV) : Hp := MH (HG i l C E (emb ρ 2 3 4 mx t)) (emb ρ 2 3 11 5000 tg) [.list [cv, cv]]
section
variable {S : St0} {a : Addr} {F G : List Int} {cuts : Bool} {q : Int}
theorem law_s14 {H : Hp} (hF : F.length ≤ 20) (hG : G.length ≤ 20) : Ex S.W true 697 lawSc (lawAt 13) (lawNs, [some (.val (.ref a)), some (.obj 1), some (.obj 2), some (.fl (F.map .int)), some (.fl (G.map .int)), some (.bool cuts), some (.int q), some (.obj 3), some (.obj 5), some (.obj 12), some (.obj 18), some (.obj 12), none, none, none]) H .next (lawNs, [some (.val (.ref a)), some (.obj 1), some (.obj 2), some (.fl (F.map .int)), some (.fl (G.map .int)), some (.bool cuts), some (.int q), some (.obj 3), some (.obj 5), some (.obj 12), some (.obj 18), some (.obj 12), some (.fl ((dueL F G cuts q).map .int)), none, none]) H := by
  exact Ex.assign (v := .fl ((dueL F G cuts q).map .int)) (Ev.callFn (d := 696) (W := S.W) (ev__law_answers (by kernel_rfl)) (Evs.cons (Ev.ofLocal (v := .fl (F.map .int)) (.s (.s (.s .z))) (by kernel_rfl) (by kernel_rfl)) (Evs.cons (Ev.ofLocal (v := .fl (G.map .int)) (.s (.s (.s (.s .z)))) (by kernel_rfl) (by kernel_rfl)) (Evs.cons (Ev.ofLocal (v := .bool cuts) (.s (.s (.s (.s (.s .z))))) (by kernel_rfl) (by kernel_rfl)) (Evs.cons (Ev.ofLocal (v := .int q) (.s (.s (.s (.s (.s (.s .z)))))) (by kernel_rfl) (by kernel_rfl)) Evs.nil (fun _ => rfl)) (fun _ => rfl)) (fun _ => rfl)) (fun _ => rfl)) (by kernel_rfl) (fun _ => rfl) (fun _ _ => rfl) (answers_ok (d := 694) hF hG)) (.s (.s (.s (.s (.s (.s (.s (.s (.s (.s (.s (.s .z)))))))))))) (by kernel_rfl) (fun _ _ => rfl)
theorem turn_st1 {ρ : Nat → Int} {U : List Int} {k : Nat} {o2 : Option AV} {H1 : Hp} {X : Hp} {m m2 : Mc} (hl : H1.length = 12)
    (hc : Cl S.W true 696 (if decide (0 < k) then a_Emulator_redo else a_Emulator_run) [.obj H1.length] (MH H1 m X) (.bool (decide (k < U.length))) (MH H1 m2 X)) :
    Ex S.W true 697 lawSc (lawB15[0]?.getD (.Pass ⟨0, 0, 0, 0⟩)) (lawNs, [some (.val (.ref a)), some (.obj 1), some (.obj 2), some (.fl (F.map .int)), some (.fl (G.map .int)), some (.bool cuts), some (.int q), some (.obj 3), some (.obj 5), some (.obj 12), some (.obj 18), some (.obj 12), some (.fl (U.map .int)), some (.int (0 + (k : Nat))), o2]) (MH H1 m X) .next (lawNs, [some (.val (.ref a)), some (.obj 1), some (.obj 2), some (.fl (F.map .int)), some (.fl (G.map .int)), some (.bool cuts), some (.int q), some (.obj 3), some (.obj 5), some (.obj 12), some (.obj 18), some (.obj 12), some (.fl (U.map .int)), some (.int (0 + (k : Nat))), some (.bool (decide (k < U.length)))]) (MH H1 m2 X) := by
  have g0 : Ev S.W true 697 lawSc (.Name (Str.ofString "great") ⟨0, 0, 0, 0⟩) (lawNs, [some (.val (.ref a)), some (.obj 1), some (.obj 2), some (.fl (F.map .int)), some (.fl (G.map .int)), some (.bool cuts), some (.int q), some (.obj 3), some (.obj 5), some (.obj 12), some (.obj 18), some (.obj 12), some (.fl (U.map .int)), some (.int (0 + (k : Nat))), o2]) (MH H1 m X) (.obj H1.length) (MH H1 m X) := by rw [hl]; exact (Ev.ofLocal (v := .obj 12) (.s (.s (.s (.s (.s (.s (.s (.s (.s .z))))))))) (by kernel_rfl) (by kernel_rfl))
  refine' Ex.assign (v := .bool (decide (k < U.length))) ?zv (.s (.s (.s (.s (.s (.s (.s (.s (.s (.s (.s (.s (.s (.s .z)))))))))))))) (by kernel_rfl) (fun _ _ => rfl)
  case zv =>
    by_cases c : k = 0
    · have e : decide (0 < k) = false := decide_eq_false (by omega)
      rw [e] at hc
      refine' Ev.ifT (H₁ := MH H1 m X) (Ts.eq (Ts.cmp (d := 696) (v := .int (0 + (k : Nat))) (v' := .int 0) (Ev.ofLocal (v := .int (0 + (k : Nat))) (.s (.s (.s (.s (.s (.s (.s (.s (.s (.s (.s (.s (.s .z))))))))))))) (by kernel_rfl) (by kernel_rfl)) Ev.int CmpR.eqI rfl) (decide_eq_true (by omega))) ?zr
      case zr =>
        refine' Ev.callMeth0 (d := 696) (k := H1.length) ?zg MH0 (nm_emu (by kernel_rfl)) (mt_Emulator_run S.w.params) (fun _ => ⟨_, rfl⟩) hc.up
        case zg => rw [hl]; exact (Ev.ofLocal (v := .obj 12) (.s (.s (.s (.s (.s (.s (.s (.s (.s .z))))))))) (by kernel_rfl) (by kernel_rfl))
    · have e : decide (0 < k) = true := decide_eq_true (by omega)
      rw [e] at hc
      refine' Ev.ifF (H₁ := MH H1 m X) (Ts.eq (Ts.cmp (d := 696) (v := .int (0 + (k : Nat))) (v' := .int 0) (Ev.ofLocal (v := .int (0 + (k : Nat))) (.s (.s (.s (.s (.s (.s (.s (.s (.s (.s (.s (.s (.s .z))))))))))))) (by kernel_rfl) (by kernel_rfl)) Ev.int CmpR.eqI rfl) (decide_eq_false (by omega))) ?zr
      case zr =>
        refine' Ev.callMeth0 (d := 696) (k := H1.length) ?zg MH0 (nm_emu (by kernel_rfl)) (mt_Emulator_redo S.w.params) (fun _ => ⟨_, rfl⟩) hc.up
        case zg => rw [hl]; exact (Ev.ofLocal (v := .obj 12) (.s (.s (.s (.s (.s (.s (.s (.s (.s .z))))))))) (by kernel_rfl) (by kernel_rfl))
theorem turn_st2 {ρ : Nat → Int} {U : List Int} {k : Nat} {i i' : Int} {l l' : List Int} {C : List AV} {E : List (Int × AV)} {mx mx' : Int} {t t2 : TM} {cv : AV} (hU : U.length ≤ 500) (hk : k ≤ 500)
    (hc : Cl S.W true 697 a__law_stopped [.obj 1, .obj 5, .bool (decide (0 < k))] (LH ρ i l C E mx t t2 cv) (.bool (decide (k < U.length))) (LH ρ i' l' C E mx' t2 t2 cv)) :
    Ex S.W true 697 lawSc (lawB15[1]?.getD (.Pass ⟨0, 0, 0, 0⟩)) (lawNs, [some (.val (.ref a)), some (.obj 1), some (.obj 2), some (.fl (F.map .int)), some (.fl (G.map .int)), some (.bool cuts), some (.int q), some (.obj 3), some (.obj 5), some (.obj 12), some (.obj 18), some (.obj 12), some (.fl (U.map .int)), some (.int (0 + (k : Nat))), some (.bool (decide (k < U.length)))]) (LH ρ i l C E mx t t2 cv) .next (lawNs, [some (.val (.ref a)), some (.obj 1), some (.obj 2), some (.fl (F.map .int)), some (.fl (G.map .int)), some (.bool cuts), some (.int q), some (.obj 3), some (.obj 5), some (.obj 12), some (.obj 18), some (.obj 12), some (.fl (U.map .int)), some (.int (0 + (k : Nat))), some (.bool (decide (k < U.length)))]) (LH ρ i' l' C E mx' t2 t2 cv) := by
  refine' Ex.ifF (H₁ := LH ρ i' l' C E mx' t2 t2 cv) (Ts.orC (H₁ := LH ρ i l C E mx t t2 cv) (Ts.eq (Ts.cmp (d := 696) (v := .bool (decide (k < U.length))) (v' := .bool (decide ((0 + (k : Nat) : Int) < ((U.map AV.int).length : Nat)))) (Ev.ofLocal (v := .bool (decide (k < U.length))) (.s (.s (.s (.s (.s (.s (.s (.s (.s (.s (.s (.s (.s (.s .z)))))))))))))) (by kernel_rfl) (by kernel_rfl)) (Ev.cmp (d := 696) (Ev.ofLocal (v := .int (0 + (k : Nat))) (.s (.s (.s (.s (.s (.s (.s (.s (.s (.s (.s (.s (.s .z))))))))))))) (by kernel_rfl) (by kernel_rfl)) (Ev.lenF (ev_len (by kernel_rfl)) (Ev.ofLocal (v := .fl (U.map .int)) (.s (.s (.s (.s (.s (.s (.s (.s (.s (.s (.s (.s .z)))))))))))) (by kernel_rfl) (by kernel_rfl)) (by rw [List.length_map]; omega) (fun _ => rfl)) CmpR.lt rfl) CmpR.neB rfl) ?z1)
    (Ts.orF (H₁ := LH ρ i' l' C E mx' t2 t2 cv) (Ts.eq (Ts.cmp (d := 696) (v := .bool (decide (k < U.length))) (v' := .bool (decide (k < U.length))) (Ev.callFn (d := 696) (W := S.W) (ev__law_stopped (by kernel_rfl)) (Evs.cons (Ev.ofCell (v := .obj 1) (.s .z) (by kernel_rfl) (by kernel_rfl)) (Evs.cons (Ev.ofLocal (v := .obj 5) (.s (.s (.s (.s (.s (.s (.s (.s .z)))))))) (by kernel_rfl) (by kernel_rfl)) (Evs.cons (Ev.eq (Ev.cmp (d := 696) (Ev.ofLocal (v := .int (0 + (k : Nat))) (.s (.s (.s (.s (.s (.s (.s (.s (.s (.s (.s (.s (.s .z))))))))))))) (by kernel_rfl) (by kernel_rfl)) Ev.int CmpR.gt rfl) ?z2) Evs.nil (fun _ => rfl)) (fun _ => rfl)) (fun _ => rfl)) (by kernel_rfl) (fun _ => rfl) (fun _ _ => rfl) hc) (Ev.ofLocal (v := .bool (decide (k < U.length))) (.s (.s (.s (.s (.s (.s (.s (.s (.s (.s (.s (.s (.s (.s .z)))))))))))))) (by kernel_rfl) (by kernel_rfl)) CmpR.neB rfl) ?z3)
      (Ts.eq (Ts.cmp (d := 696) (v := .int t2.steps) (v' := .int t2.steps) (Ev.attr (p := _) (Ev.ofLocal (v := .obj 5) (.s (.s (.s (.s (.s (.s (.s (.s .z)))))))) (by kernel_rfl) (by kernel_rfl)) (show (LH ρ i' l' C E mx' t2 t2 cv)[5]? = some (.inst c_Emulator (emuFs 5 (emb ρ 2 3 4 mx' t2))) from rfl) (n := Str.ofString "steps") (v := .int t2.steps) (by repeat (first | exact List.mem_cons_self | refine List.mem_cons_of_mem _ ?_)) (emu_nd _ _) (by kernel_rfl) rfl (fun _ _ => rfl)) (Ev.attr (p := _) (Ev.ofLocal (v := .obj 12) (.s (.s (.s (.s (.s (.s (.s (.s (.s .z))))))))) (by kernel_rfl) (by kernel_rfl)) (show (LH ρ i' l' C E mx' t2 t2 cv)[12]? = some (.inst c_Emulator (emuFs 12 (emb ρ 2 3 11 5000 t2))) from rfl) (n := Str.ofString "steps") (v := .int t2.steps) (by repeat (first | exact List.mem_cons_self | refine List.mem_cons_of_mem _ ?_)) (emu_nd _ _) (by kernel_rfl) rfl (fun _ _ => rfl)) CmpR.neI rfl) ?z4))) Exs.nil
  case z1 =>
    have e : decide ((0 + (k : Nat) : Int) < ((U.map AV.int).length : Nat)) = decide (k < U.length) := by rw [List.length_map]; exact decide_eq_decide.mpr (by omega)
    rw [e]; simp
  case z2 => exact congrArg AV.bool (decide_eq_decide.mpr (by omega))
  case z3 => simp
  case z4 => simp
theorem turn_st3 {ρ : Nat → Int} {U : List Int} {k : Nat} {i : Int} {l : List Int} {C : List AV} {E : List (Int × AV)} {mx : Int} {t2 : TM} {cv : AV} (hk : k ≤ 500)
    (hd : k < U.length → ∃ w, U[k]? = some w ∧ ∀ (H1 X : Hp) (kt : Nat) (mx : Int), Cl S.W true 697 a_Cells_deref [.obj (H1.length + 1), cv] (MH H1 (emb ρ 2 3 kt mx t2) X) (.tup [.int 5, .int w]) (MH H1 (emb ρ 2 3 kt mx t2) X)) :
    Ex S.W true 697 lawSc (lawB15[2]?.getD (.Pass ⟨0, 0, 0, 0⟩)) (lawNs, [some (.val (.ref a)), some (.obj 1), some (.obj 2), some (.fl (F.map .int)), some (.fl (G.map .int)), some (.bool cuts), some (.int q), some (.obj 3), some (.obj 5), some (.obj 12), some (.obj 18), some (.obj 12), some (.fl (U.map .int)), some (.int (0 + (k : Nat))), some (.bool (decide (k < U.length)))]) (LH ρ i l C E mx t2 t2 cv) .next (lawNs, [some (.val (.ref a)), some (.obj 1), some (.obj 2), some (.fl (F.map .int)), some (.fl (G.map .int)), some (.bool cuts), some (.int q), some (.obj 3), some (.obj 5), some (.obj 12), some (.obj 18), some (.obj 12), some (.fl (U.map .int)), some (.int (0 + (k : Nat))), some (.bool (decide (k < U.length)))]) (LH ρ i l C E mx t2 t2 cv) := by
  by_cases c : k < U.length
  · obtain ⟨w, hw, hder⟩ := hd c
    have hx : (U.map AV.int)[(0 + (k : Nat) : Int).toNat]? = some (.int w) := by
      rw [show (0 + (k : Nat) : Int).toNat = k by omega, List.getElem?_map, hw]; rfl
    refine' Ex.ifF (H₁ := LH ρ i l C E mx t2 t2 cv) (Ts.andT (H₁ := LH ρ i l C E mx t2 t2 cv) (Ts.eq (Ts.val (Ev.ofLocal (v := .bool (decide (k < U.length))) (.s (.s (.s (.s (.s (.s (.s (.s (.s (.s (.s (.s (.s (.s .z)))))))))))))) (by kernel_rfl) (by kernel_rfl)) (fun _ _ => rfl)) (decide_eq_true c)) (Ts.orF (H₁ := LH ρ i l C E mx t2 t2 cv) ?z1 ?z2)) Exs.nil
    case z1 =>
      refine' Ts.eq (Ts.cmp (d := 696) (v := .tup [.int 5, .int w]) (v' := .tup [.int 5, .int w]) ?z3 ?z4 CmpR.neT rfl) ?z5
      case z3 =>
        exact Ev.callMeth (d := 696) (k := 13) (vs := [cv]) (H₁ := LH ρ i l C E mx t2 t2 cv) (H₂ := LH ρ i l C E mx t2 t2 cv) (Ev.attr (p := _) (Ev.ofLocal (v := .obj 12) (.s (.s (.s (.s (.s (.s (.s (.s (.s .z))))))))) (by kernel_rfl) (by kernel_rfl)) (show (LH ρ i l C E mx t2 t2 cv)[12]? = some (.inst c_Emulator (emuFs 12 (emb ρ 2 3 11 5000 t2))) from rfl) (n := Str.ofString "store") (v := .obj 13) (by repeat (first | exact List.mem_cons_self | refine List.mem_cons_of_mem _ ?_)) (emu_nd _ _) (by kernel_rfl) rfl (fun _ _ => rfl)) (show (LH ρ i l C E mx t2 t2 cv)[13]? = some (.inst c_Store (stoFs 12 (emb ρ 2 3 11 5000 t2))) from rfl) (nm_sto (by kernel_rfl)) (mt_Store_deref S.w.params)
          (Evs.cons (Ev.litem (k := 18) (l := [cv, cv]) (n := 1) (Ev.ofLocal (v := .obj 18) (.s (.s (.s (.s (.s (.s (.s (.s (.s (.s .z)))))))))) (by kernel_rfl) (by kernel_rfl)) Ev.int rfl (by decide) (by decide) rfl (fun _ _ _ => rfl)) Evs.nil (fun _ => rfl)) (fun _ => rfl) (fun _ _ => rfl) (fun _ => ⟨_, rfl⟩) (hder (HG i l C E (emb ρ 2 3 4 mx t2)) [.list [cv, cv]] 11 5000)
      case z4 => exact Ev.tuple (Evs.cons (ev_INT (by kernel_rfl)) (Evs.cons (Ev.fitem (Ev.ofLocal (v := .fl (U.map .int)) (.s (.s (.s (.s (.s (.s (.s (.s (.s (.s (.s (.s .z)))))))))))) (by kernel_rfl) (by kernel_rfl)) (Ev.ofLocal (v := .int (0 + (k : Nat))) (.s (.s (.s (.s (.s (.s (.s (.s (.s (.s (.s (.s (.s .z))))))))))))) (by kernel_rfl) (by kernel_rfl)) (by omega) (by omega) hx (fun _ _ _ => rfl)) Evs.nil (fun _ => rfl)) (fun _ => rfl)) (by show 2 ≤ 1000; decide)
      case z5 => simp
    case z2 =>
      refine' Ts.eq (Ts.cmp (d := 696) (v := .tup [.int 5, .int w]) (v' := .tup [.int 5, .int w]) ?z3 ?z4 CmpR.neT rfl) ?z5
      case z3 =>
        exact Ev.callMeth (d := 696) (k := 6) (vs := [cv]) (H₁ := LH ρ i l C E mx t2 t2 cv) (H₂ := LH ρ i l C E mx t2 t2 cv) (Ev.attr (p := _) (Ev.ofLocal (v := .obj 5) (.s (.s (.s (.s (.s (.s (.s (.s .z)))))))) (by kernel_rfl) (by kernel_rfl)) (show (LH ρ i l C E mx t2 t2 cv)[5]? = some (.inst c_Emulator (emuFs 5 (emb ρ 2 3 4 mx t2))) from rfl) (n := Str.ofString "store") (v := .obj 6) (by repeat (first | exact List.mem_cons_self | refine List.mem_cons_of_mem _ ?_)) (emu_nd _ _) (by kernel_rfl) rfl (fun _ _ => rfl)) (show (LH ρ i l C E mx t2 t2 cv)[6]? = some (.inst c_Store (stoFs 5 (emb ρ 2 3 4 mx t2))) from rfl) (nm_sto (by kernel_rfl)) (mt_Store_deref S.w.params)
          (Evs.cons (Ev.litem (k := 18) (l := [cv, cv]) (n := 0) (Ev.ofLocal (v := .obj 18) (.s (.s (.s (.s (.s (.s (.s (.s (.s (.s .z)))))))))) (by kernel_rfl) (by kernel_rfl)) Ev.int rfl (by decide) (by decide) rfl (fun _ _ _ => rfl)) Evs.nil (fun _ => rfl)) (fun _ => rfl) (fun _ _ => rfl) (fun _ => ⟨_, rfl⟩) (hder (HS i l C E) (SR (emb ρ 2 3 11 5000 t2) [.list [cv, cv]]) 4 mx)
      case z4 => exact Ev.tuple (Evs.cons (ev_INT (by kernel_rfl)) (Evs.cons (Ev.fitem (Ev.ofLocal (v := .fl (U.map .int)) (.s (.s (.s (.s (.s (.s (.s (.s (.s (.s (.s (.s .z)))))))))))) (by kernel_rfl) (by kernel_rfl)) (Ev.ofLocal (v := .int (0 + (k : Nat))) (.s (.s (.s (.s (.s (.s (.s (.s (.s (.s (.s (.s (.s .z))))))))))))) (by kernel_rfl) (by kernel_rfl)) (by omega) (by omega) hx (fun _ _ _ => rfl)) Evs.nil (fun _ => rfl)) (fun _ => rfl)) (by show 2 ≤ 1000; decide)
      case z5 => simp
  · exact Ex.ifF (H₁ := LH ρ i l C E mx t2 t2 cv) (Ts.andF (Ts.eq (Ts.val (Ev.ofLocal (v := .bool (decide (k < U.length))) (.s (.s (.s (.s (.s (.s (.s (.s (.s (.s (.s (.s (.s (.s .z)))))))))))))) (by kernel_rfl) (by kernel_rfl)) (fun _ _ => rfl)) (decide_eq_false c))) Exs.nil
end
end
section
open PySem PySem.W PyProof.Rows PySem.Calls PySem.Spec
theorem b15_is : lawB15 = [lawB15[0]?.getD (.Pass ⟨0, 0, 0, 0⟩), lawB15[1]?.getD (.Pass ⟨0, 0, 0, 0⟩), lawB15[2]?.getD (.Pass ⟨0, 0, 0, 0⟩)] := by kernel_rfl
theorem pg_pot {ρ : Nat → Int} {g : Pg} {kt : Nat} (h4 : 2 ≤ kt) : ∀ (H1 : Hp) (i : Int) (l : List Int) (j : Int) (l' : List Int), PotAt H1 1 0 i l → PgAt ρ g 2 3 kt H1 → PgAt ρ g 2 3 kt (potSet H1 1 0 j l') := by
  intro H1 i l j l' _ P
  have key : ∀ n, 2 ≤ n → (potSet H1 1 0 j l')[n]? = H1[n]? := fun n hn => by
    unfold potSet
    rw [List.getElem?_set_ne (by omega), List.getElem?_set_ne (by omega)]
  obtain ⟨L, e1, e2, e3⟩ := P.e
  exact ⟨by rw [key 2 (by decide)]; exact P.c, ⟨L, by rw [key 3 (by decide)]; exact e1, e2, e3⟩, by rw [key kt h4]; exact P.t⟩
section
variable {S : St0} {a : Addr} {F G : List Int} {cuts : Bool} {q : Int}
theorem deref_ans {ρ : Nat → Int} {v : Bool} {t2 : TM} {d : Nat} {cv : AV} (hcv : cv = if v then .tup [.int 0, .int 0] else .tup [.int 5, .int (ρ 5)]) (ha : AnsOk t2 v d) : ∀ (H1 X : Hp) (kt : Nat) (mx : Int), Cl S.W true 697 a_Cells_deref [.obj (H1.length + 1), cv] (MH H1 (emb ρ 2 3 kt mx t2) X) (.tup [.int 5, .int (ρ d)]) (MH H1 (emb ρ 2 3 kt mx t2) X) := by
  intro H1 X kt mx
  unfold AnsOk at ha
  cases v with
  | true =>
    rw [if_pos rfl] at ha hcv
    rw [hcv]
    exact deref_b (d := 694) (m := emb ρ 2 3 kt mx t2) (a := 0) (t := 5) (v := ρ d) (by decide) (by decide) (by decide) (by decide) (by show (t2.hp.map (Ce.av ρ))[0]? = _; rw [ha]; rfl)
  | false =>
    rw [if_neg Bool.false_ne_true] at ha hcv
    rw [hcv, ha]
    exact deref_c (d := 694) (m := emb ρ 2 3 kt mx t2) (t := 5) (v := ρ 5) (by decide) (by decide)
theorem law_turn {ρ : Nat → Int} {g : Pg} {eq rel : Nat → Nat → Bool} {v : Bool} {U : List Int} {k k1 : Nat} {i : Int} {l : List Int} {C : List AV} {E : List (Int × AV)} {mx : Int} {t t1 t2 : TM} {cv : AV} {o1 o2 : Option AV} (hrel : ∀ i w, rel i w = true → eq i w = decide (ρ i = ρ w)) (PS : ∀ i l, PgAt ρ g 2 3 4 (HS i l C E)) (PG : ∀ i l ms, PgAt ρ g 2 3 11 (HG i l C E ms))
    (hU : U.length ≤ 500) (hk : k ≤ 500) (h0 : l ≠ []) (hl : l.length ≤ 20) (hm : t.steps ≤ mx) (hp : Pre (decide (0 < k)) t t1) (hc : Chn eq rel g k1 t1 t2) (hk1 : k1 < 100) (hh : t2.halted = true) (hr : (!t2.failed) = decide (k < U.length))
    (hd : k < U.length → ∃ w, U[k]? = some w ∧ ∀ (H1 X : Hp) (kt : Nat) (mx : Int), Cl S.W true 697 a_Cells_deref [.obj (H1.length + 1), cv] (MH H1 (emb ρ 2 3 kt mx t2) X) (.tup [.int 5, .int w]) (MH H1 (emb ρ 2 3 kt mx t2) X)) :
    ∃ (i' : Int) (l' : List Int) (mx' : Int), l' ≠ [] ∧ l'.length ≤ 20 ∧ t2.steps ≤ mx' ∧ Exs S.W true 697 lawSc lawB15 (lawNs, [some (.val (.ref a)), some (.obj 1), some (.obj 2), some (.fl (F.map .int)), some (.fl (G.map .int)), some (.bool cuts), some (.int q), some (.obj 3), some (.obj 5), some (.obj 12), some (.obj 18), some (.obj 12), some (.fl (U.map .int)), some (.int (0 + (k : Nat))), o2]) (LH ρ i l C E mx t t cv) .next (lawNs, [some (.val (.ref a)), some (.obj 1), some (.obj 2), some (.fl (F.map .int)), some (.fl (G.map .int)), some (.bool cuts), some (.int q), some (.obj 3), some (.obj 5), some (.obj 12), some (.obj 18), some (.obj 12), some (.fl (U.map .int)), some (.int (0 + (k : Nat))), some (.bool (decide (k < U.length)))]) (LH ρ i' l' C E mx' t2 t2 cv) := by
  have gt := great_turn (S := S) (kc := 2) (ke := 3) (kt := 11) (Ok := fun H1 => PgAt ρ g 2 3 11 H1) hrel (fun _ h => h) hp hc hh (H1 := HG i l C E (emb ρ 2 3 4 mx t)) (H2 := [.list [cv, cv]]) (PG i l _)
  rw [hr] at gt
  have go := goes_turn (S := S) (kc := 2) (ke := 3) (kt := 4) (Ok := fun H1 => PgAt ρ g 2 3 4 H1) hrel (fun _ h => h) hp hc hh (mx := mx) (mz := 0) hm
  rw [hr] at go
  obtain ⟨i', l', mx', e1, e2, e3⟩ := stopped_ok (S := S) (H1 := HS i l C E) (H2 := SR (emb ρ 2 3 11 5000 t2) [.list [cv, cv]]) (pg_pot (ρ := ρ) (g := g) (kt := 4) (by decide)) go (by omega) (PH_at h0 hl) (PS i l)
  refine ⟨i', l', mx', fun e => h0 ?_, by omega, e2, ?_⟩
  · rw [e] at e1
    exact List.eq_nil_of_length_eq_zero e1.symm
  rw [b15_is]
  exact Exs.next (turn_st1 (ρ := ρ) (H1 := HG i l C E (emb ρ 2 3 4 mx t)) (X := [.list [cv, cv]]) rfl gt) (Exs.next (turn_st2 hU hk e3) (Exs.next (turn_st3 hk hd) Exs.nil))
theorem law_loop {ρ : Nat → Int} {g : Pg} {eq rel : Nat → Nat → Bool} {v : Bool} {ids : List Nat} {C : List AV} {E : List (Int × AV)} {cv : AV} (hrel : ∀ i w, rel i w = true → eq i w = decide (ρ i = ρ w)) (PS : ∀ i l, PgAt ρ g 2 3 4 (HS i l C E)) (PG : ∀ i l ms, PgAt ρ g 2 3 11 (HG i l C E ms)) (hcv : cv = if v then .tup [.int 0, .int 0] else .tup [.int 5, .int (ρ 5)]) (hids : ids.length ≤ 400) {U : List Int} (hU : U = ids.map ρ)
    {more : Bool} {t : TM} {ds : List Nat} (T : Turns eq rel g v more t ds) : ∀ (k : Nat) (pre : List Nat), ids = pre ++ ds → pre.length = k → more = decide (0 < k) → ∀ (i : Int) (l : List Int) (mx : Int) (o1 o2 : Option AV), l ≠ [] → l.length ≤ 20 → t.steps ≤ mx →
      ∃ (i' : Int) (l' : List Int) (mx' : Int) (tE : TM) (o1' o2' : Option AV), tE.b = -1 ∧ FT S.W true 697 lawSc (Str.ofString "spot") lawB15 ((List.range' k (ds.length + 1)).map fun j => .int (0 + (j : Nat))) (lawNs, [some (.val (.ref a)), some (.obj 1), some (.obj 2), some (.fl (F.map .int)), some (.fl (G.map .int)), some (.bool cuts), some (.int q), some (.obj 3), some (.obj 5), some (.obj 12), some (.obj 18), some (.obj 12), some (.fl (U.map .int)), o1, o2]) (LH ρ i l C E mx t t cv) .next (lawNs, [some (.val (.ref a)), some (.obj 1), some (.obj 2), some (.fl (F.map .int)), some (.fl (G.map .int)), some (.bool cuts), some (.int q), some (.obj 3), some (.obj 5), some (.obj 12), some (.obj 18), some (.obj 12), some (.fl (U.map .int)), o1', o2']) (LH ρ i' l' C E mx' tE tE cv) := by
  have hUl : U.length = ids.length := by rw [hU, List.length_map]
  induction T with
  | last hp hc hk1 hh hf hb =>
    rename_i more t t1 t2 k1
    intro k pre e1 e2 e3 i l mx o1 o2 h0 hl hm
    rw [List.append_nil] at e1
    subst e1
    rw [e3] at hp
    have hk : ¬ k < U.length := by omega
    obtain ⟨i', l', mx', a1, a2, a3, ex⟩ := law_turn (S := S) (a := a) (F := F) (G := G) (cuts := cuts) (q := q) (U := U) (k := k) (cv := cv) (o1 := o1) (o2 := o2) (v := v) hrel PS PG (by omega) (by omega) h0 hl hm hp hc hk1 hh (by rw [hf, decide_eq_false hk]; rfl) (fun h => absurd h hk)
    exact ⟨i', l', mx', t2, _, _, hb, FT.turn (.s (.s (.s (.s (.s (.s (.s (.s (.s (.s (.s (.s (.s .z))))))))))))) ex .done⟩
  | next hp hc hk1 hh hf ha T ih =>
    rename_i more t t1 t2 k1 d ds
    intro k pre e1 e2 e3 i l mx o1 o2 h0 hl hm
    rw [e3] at hp
    have hk : k < U.length := by rw [hUl, e1, List.length_append, List.length_cons]; omega
    have hw : U[k]? = some (ρ d) := by rw [hU, e1, List.getElem?_map, List.getElem?_append_right (by omega), e2, Nat.sub_self]; rfl
    obtain ⟨i', l', mx', a1, a2, a3, ex⟩ := law_turn (S := S) (a := a) (F := F) (G := G) (cuts := cuts) (q := q) (U := U) (k := k) (cv := cv) (o1 := o1) (o2 := o2) (v := v) hrel PS PG (by omega) (by omega) h0 hl hm hp hc hk1 hh (by rw [hf, decide_eq_true hk]; rfl) (fun _ => ⟨ρ d, hw, deref_ans hcv ha⟩)
    obtain ⟨i2, l2, mx2, tE, p1, p2, b1, ft⟩ := ih (k + 1) (pre ++ [d]) (by rw [e1, List.append_assoc]; rfl) (by rw [List.length_append, e2]; rfl) (by rw [decide_eq_true (Nat.succ_pos k)]) i' l' mx' (some (.int (0 + (k : Nat)))) (some (.bool (decide (k < U.length)))) a1 a2 a3
    exact ⟨i2, l2, mx2, tE, p1, p2, b1, FT.turn (.s (.s (.s (.s (.s (.s (.s (.s (.s (.s (.s (.s (.s .z))))))))))))) ex ft⟩
end
end
section
open PySem PySem.W PyProof.Rows PySem.Calls PySem.Spec
theorem cd1_len {F : List Int} (h1 : 1 ≤ F.length) (h2 : F.length ≤ 2) : (cd1 F).length = 2 + len1 F.length := by
  rcases len12 h1 h2 with ⟨a, rfl⟩ | ⟨a, b, rfl⟩ <;> rfl
theorem cd2_len {F G : List Int} (h1 : 1 ≤ F.length) (h2 : F.length ≤ 2) (h3 : 1 ≤ G.length) (h4 : G.length ≤ 3) : (cd2 F G).length = 2 + len1 F.length + len1 G.length := by
  rcases len12 h1 h2 with ⟨a, rfl⟩ | ⟨a, b, rfl⟩ <;> rcases len13 h3 h4 with ⟨x, rfl⟩ | ⟨x, y, rfl⟩ | ⟨x, y, z, rfl⟩ <;> rfl
theorem cd3_eq {F G : List Int} {cuts : Bool} {q : Int} (h1 : 1 ≤ F.length) (h2 : F.length ≤ 2) (h3 : 1 ≤ G.length) (h4 : G.length ≤ 3) : cd3 F G cuts = codeAV (rhoT F G q) (pgT F.length G.length cuts).code := by
  rcases len12 h1 h2 with ⟨a, rfl⟩ | ⟨a, b, rfl⟩ <;> rcases len13 h3 h4 with ⟨x, rfl⟩ | ⟨x, y, rfl⟩ | ⟨x, y, z, rfl⟩ <;> cases cuts <;> rfl
theorem start_emb {F G : List Int} {q mx : Int} {kt f s : Nat} : stM (m0 kt 2 3 mx) (celV q) (hpV q) ((2 + len1 f + len1 s : Nat) : Int) = emb (rhoT F G q) 2 3 kt mx (startT f s (decide (q = 3))) := by
  by_cases c : q = 3
  · have e1 : celV q = .tup [.int 0, .int 0] := if_pos c
    have e2 : hpV q = [.tup [.int 0, .int 0]] := if_pos c
    rw [e1, e2, decide_eq_true c]
    rfl
  · have e1 : celV q = .tup [.int 5, .int q] := if_neg c
    have e2 : hpV q = [] := if_neg c
    rw [e1, e2, decide_eq_false c]
    rfl
theorem tbl_tab : tbl = tabV := by kernel_rfl
theorem rest_is : lawRest = [lawAt 1, lawAt 2, lawAt 3, lawAt 4, lawAt 5, lawAt 6, lawAt 7, lawAt 8, lawAt 9, lawAt 10, lawAt 11, lawAt 12, lawAt 13, lawAt 14, lawAt 15] := by kernel_rfl
section
variable {S : St0} {a : Addr}
theorem law_s16 {ρ : Nat → Int} {F G U : List Int} {cuts : Bool} {q : Int} {i : Int} {l : List Int} {C : List AV} {E : List (Int × AV)} {mx : Int} {t : TM} {cv : AV} {o1 o2 : Option AV} (hb : t.b = -1) : Ex S.W true 697 lawSc (lawAt 15) (lawNs, [some (.val (.ref a)), some (.obj 1), some (.obj 2), some (.fl (F.map .int)), some (.fl (G.map .int)), some (.bool cuts), some (.int q), some (.obj 3), some (.obj 5), some (.obj 12), some (.obj 18), some (.obj 12), some (.fl (U.map .int)), o1, o2]) (LH ρ i l C E mx t t cv) (.ret (.bool true)) (lawNs, [some (.val (.ref a)), some (.obj 1), some (.obj 2), some (.fl (F.map .int)), some (.fl (G.map .int)), some (.bool cuts), some (.int q), some (.obj 3), some (.obj 5), some (.obj 12), some (.obj 18), some (.obj 12), some (.fl (U.map .int)), o1, o2]) (LH ρ i l C E mx t t cv) := by
  refine' Ex.ret (Ev.andT (H₁ := LH ρ i l C E mx t t cv) (Ev.cmp (d := 696) (v := .fl []) (v' := .fl []) ?z1 (Ev.flist Evs.nil (by decide)) CmpR.eqNil rfl) (Ev.cmp (d := 696) (v := .fl []) (v' := .fl []) ?z2 (Ev.flist Evs.nil (by decide)) CmpR.eqNil rfl))
  case z1 => exact Ev.callMeth0 (d := 696) (k := 5) (Ev.ofLocal (v := .obj 5) (.s (.s (.s (.s (.s (.s (.s (.s .z)))))))) (by kernel_rfl) (by kernel_rfl)) (show (LH ρ i l C E mx t t cv)[5]? = some (.inst c_Emulator (emuFs 5 (emb ρ 2 3 4 mx t))) from rfl) (nm_emu (by kernel_rfl)) (mt_Emulator_choices S.w.params) (fun _ => ⟨_, rfl⟩) (choices_ok (d := 694) (H1 := HS i l C E) (H2 := SR (emb ρ 2 3 11 5000 t) [.list [cv, cv]]) (m := emb ρ 2 3 4 mx t) (by show t.b < 0; omega))
  case z2 => exact Ev.callMeth0 (d := 696) (k := 12) (Ev.ofLocal (v := .obj 12) (.s (.s (.s (.s (.s (.s (.s (.s (.s .z))))))))) (by kernel_rfl) (by kernel_rfl)) (show (LH ρ i l C E mx t t cv)[12]? = some (.inst c_Emulator (emuFs 12 (emb ρ 2 3 11 5000 t))) from rfl) (nm_emu (by kernel_rfl)) (mt_Emulator_choices S.w.params) (fun _ => ⟨_, rfl⟩) (choices_ok (d := 694) (H1 := HG i l C E (emb ρ 2 3 4 mx t)) (H2 := [.list [cv, cv]]) (m := emb ρ 2 3 11 5000 t) (by show t.b < 0; omega))
theorem law_rest : ∀ l, l ≠ [] → l.length ≤ 20 → ∃ fr' H', Exs S.W true 697 lawSc lawRest (lawNs, some (.val (.ref a)) :: some (.obj 1) :: [none, none, none, none, none, none, none, none, none, none, none, none, none]) (PH 0 l []) (.ret (.bool true)) fr' H' := by
  intro l h0 hl
  obtain ⟨F, i1, l1, eF, a1, b1, x3⟩ := law_s3 (S := S) (a := a) (i := 0) (l := l) h0 hl
  obtain ⟨G, i2, l2, eG, a2, b2, x4⟩ := law_s4 (S := S) (a := a) (F := F) (i := i1) (l := l1) a1 b1
  have d2 := digV_bounds (i := 0) (l := l) (lim := 2) (by decide)
  have d3 := digV_bounds (i := i1) (l := l1) (lim := 3) (by decide)
  have f1 : 1 ≤ F.length := by omega
  have f2 : F.length ≤ 2 := by omega
  have g1 : 1 ≤ G.length := by omega
  have g2 : G.length ≤ 3 := by omega
  have x5 := law_s5 (S := S) (a := a) (F := F) (G := G) (i := i2) a2 b2
  obtain ⟨a3, b3⟩ := digL_ok (i := i2) (l := l2) (lim := 3) a2 b2
  generalize decide (digV i2 l2 3 = 1) = cuts at x5
  have x6 := law_s6 (S := S) (a := a) (i := i2 + 1) (F := F) (G := G) (cuts := cuts) a3 b3
  obtain ⟨a4, b4⟩ := digL_ok (i := i2 + 1) (l := digL i2 l2 3) (lim := 4) a3 b3
  generalize 3 - digV (i2 + 1) (digL i2 l2 3) 4 = q at x6
  generalize digL (i2 + 1) (digL i2 l2 3) 4 = l3 at x6 a4 b4
  generalize i2 + 1 + 1 = i3 at x6
  have x10 := law_s10 (S := S) (a := a) (i := i3) (l := l3) (F := F) (G := G) (cuts := cuts) (q := q) (C := cd3 F G cuts) (E := en3 F G) a4 b4
  obtain ⟨a5, b5⟩ := digL_ok (i := i3) (l := l3) (lim := 12) a4 b4
  have d12 := digV_bounds (i := i3) (l := l3) (lim := 12) (by decide)
  generalize digV i3 l3 12 = mx at x10 d12
  generalize digL i3 l3 12 = l4 at x10 a5 b5
  generalize i3 + 1 = i4 at x10
  have x13 := law_s13 (S := S) (a := a) (F := F) (G := G) (cuts := cuts) (q := q) (i := i4) (l := l4) (C := cd3 F G cuts) (E := en3 F G) (ms := m0 4 2 3 mx) (mg := m0 11 2 3 5000) (st := ((cd2 F G).length : Nat)) rfl rfl rfl rfl rfl rfl (.tail _ (.tail _ (.head _)))
  rw [cd2_len f1 f2 g1 g2, start_emb (F := F) (G := G), start_emb (F := F) (G := G)] at x13
  have hC := cd3_eq (cuts := cuts) (q := q) f1 f2 g1 g2
  have T := turns_all (F := F) (G := G) (q := q) (cuts := cuts) (v := decide (q = 3)) f1 f2 g1 g2
  have hD := due_eq (cuts := cuts) (q := q) f2 g2
  have hrel := act_eq (F := F) (G := G) (q := q) (v := decide (q = 3)) f2 g2
  generalize hids : dueT (eqT F.length G.length (decide (q = 3)) (actT F G q (decide (q = 3)))) F.length G.length cuts (decide (q = 3)) = ids at T hD
  have lenD : ids.length ≤ 400 := by
    have h1 : (dueL F G cuts q).length = ids.length := by rw [hD, List.length_map]
    have h2 := due_len (metL F cuts q) G
    have h3 := metL_len F cuts q
    have h4 : (metL F cuts q).length * G.length ≤ 2 * 3 := Nat.mul_le_mul (by omega) g2
    have h5 : (dueL F G cuts q).length ≤ (metL F cuts q).length * G.length := h2
    omega
  have PS : ∀ kt (X : Hp), 2 ≤ kt → X[2]? = some (.list (cd3 F G cuts)) → X[3]? = some (.idict (en3 F G)) → X[kt]? = some (.sdict tbl) → PgAt (rhoT F G q) (pgT F.length G.length cuts) 2 3 kt X := fun kt X _ h2 h3 h4 => ⟨by rw [h2, hC], ⟨_, h3, .head _, by
    have : (pgT F.length G.length cuts).e2 = (((cd1 F).length : Nat) : Int) := by rw [cd1_len f1 f2]; rfl
    rw [this]
    exact .tail _ (.head _)⟩, by rw [h4, tbl_tab]⟩
  have hcv : celV q = if decide (q = 3) then .tup [.int 0, .int 0] else .tup [.int 5, .int (rhoT F G q 5)] := by
    by_cases c : q = 3
    · rw [decide_eq_true c]; exact if_pos c
    · rw [decide_eq_false c]; exact if_neg c
  obtain ⟨i5, l5, mx5, tE, p1, p2, hb, ft⟩ := law_loop (S := S) (a := a) (F := F) (G := G) (cuts := cuts) (q := q) (C := cd3 F G cuts) (E := en3 F G) (cv := celV q) (U := dueL F G cuts q) hrel (fun i l => PS 4 _ (by decide) rfl rfl rfl) (fun i l ms => PS 11 _ (by decide) rfl rfl rfl) hcv lenD hD T 0 [] rfl rfl rfl i4 l4 mx none none a5 b5 (by show (0 : Int) ≤ mx; omega)
  rw [← rangeV_range'] at ft
  have hlen : (dueL F G cuts q).length = ids.length := by rw [hD, List.length_map]
  apply Exists.intro
  apply Exists.intro
  case h.h =>
   rw [rest_is]
   refine' Exs.next (law_s2 (S := S) (a := a)) (Exs.next x3 (Exs.next x4 (Exs.next x5 (Exs.next x6 (Exs.next (law_s7 (by omega)) (Exs.next (law_s8 (by omega) (by omega)) (Exs.next (law_s9 (by omega) (by omega)) (Exs.next x10 (Exs.next law_s11 (Exs.next law_s12 (Exs.next x13 (Exs.next (law_s14 (by omega) (by omega)) (Exs.next ?pf (Exs.ret (law_s16 (S := S) (a := a) (ρ := rhoT F G q) (F := F) (G := G) (U := dueL F G cuts q) (cuts := cuts) (q := q) (i := i5) (l := l5) (C := cd3 F G cuts) (E := en3 F G) (mx := mx5) (cv := celV q) hb)))))))))))))))
   case pf => exact Ex.forRange1 (n := ids.length + 1) (bb := ((dueL F G cuts q).length : Int) + 1) (ev_range (by kernel_rfl)) (Ev.add (Ev.eq (Ev.lenF (ev_len (by kernel_rfl)) (Ev.ofLocal (v := .fl ((dueL F G cuts q).map .int)) (.s (.s (.s (.s (.s (.s (.s (.s (.s (.s (.s (.s .z)))))))))))) (by kernel_rfl) (by kernel_rfl)) (by rw [List.length_map]; omega) (fun _ => rfl)) (by rw [List.length_map])) Ev.int) (by omega) (by omega) (by omega) ft (by kernel_rfl) (fun _ => rfl) (fun _ _ => rfl)
end
end
section
open PySem PySem.W PyProof.Rows PySem.Calls PySem.Spec
theorem law_walk : LawWalk := by
  intro w s mean mg mb a vs ns X T hL hI hlen R hR
  exact law_enter (S := (⟨pw, w, q0, looseW q0 loose0, mean, mg, mb⟩ : St0)) X T hL hI hlen (law_one hL hI hlen) law_rest hR
theorem cw_all : PySem.Challenge.rw_sa0170_01.Holds := law_of_walk law_walk
end
end Mine
theorem PySem.Challenge.cw_sa0170_01_holds : PySem.Challenge.rw_sa0170_01.Holds :=
  Mine.cw_all
