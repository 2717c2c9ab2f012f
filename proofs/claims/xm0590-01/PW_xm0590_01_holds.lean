import PyProof.Rows.All
import Wide.All
import OpenK.AllK
import KE.KDictSum
import KE.KLam
import KE.KSortTup
import Wide.FinOn
import PySem.Challenge.RW_xm0590_01
set_option Elab.async false
set_option maxRecDepth 100000
set_option bootstrap.genMatcherCode false
set_option genSizeOf false
section
open PySem PySem.W PyProof.Rows
set_option maxHeartbeats 8000000
namespace Mine
set_option synthInstance.maxSize 1 in
open_top hd for PySem.Challenge.rw_xm0590_01
end Mine
end
section
open PySem PySem.Calls PySem.W PyProof.Rows
namespace Mine
theorem gen {g : Prop} (h : ∀ G : Prop, (g → G) → G) : g := h g id
/-- the data of the law -/
inductive D where
  | none
  | bool (b : Bool)
  | int (i : Int)
  | str (x : Str)
  | tup (ds : List D)
  | list (ds : List D)
  | dict (ks : List Int) (ds : List D)
  | body (ds : List D)
  | src
  | lam (d : D)
set_option genInjectivity false in
/-- what the whole call stands on -/
structure Cx where
  prog : Program
  w : World
  K : Frag
  h₀ : Heap
  q : Option Addr
  C : Addr
  P : Addr
  cT : Addr
  os : OsState
  lparams : Arguments
  lbody : Expr
  lscope : Scope
  lqual : Str
  lpos : Pos
abbrev Cx.ik (c : Cx) := intKind c.prog c.w
noncomputable def Cx.ky (c : Cx) (x : Str) : Int := PyData.keyHash c.w.params x
noncomputable def Fine (c : Cx) (a : Addr) : Prop := c.q ≠ some a ∧ a ≠ c.P
inductive BodyDict (c : Cx) (o : Obj) (vs : List Value) : Prop
  | mk (v1 v2 v3 v4 v5 : Value) (t1 t2 t3 t4 t5 : Tok) (n : Nat) (ev : vs = [v1, v2, v3, v4, v5])
    (eo : o = { cls := .type "dict", data := .dict #[⟨c.ky "name", .str "name" t1, v1⟩, ⟨c.ky "arg_count", .str "arg_count" t2, v2⟩, ⟨c.ky "locals", .str "locals" t3, v3⟩,
      ⟨c.ky "blocks", .str "blocks" t4, v4⟩, ⟨c.ky "spots", .str "spots" t5, v5⟩] n }) : BodyDict c o vs
noncomputable def LamAt (c : Cx) (z : Heap) (f : Addr) (vb : Value) : Prop :=
  ∃ pm cd ctv cc oc, z.get? f = some (kla_obj "<lambda>" c.lqual c.lparams c.lbody c.lscope [("body", cc)] pm cd ctv) ∧
    z.get? cc = some oc ∧ oc.data = .cell (some vb) ∧ z.CodeRec (.ref cd) c.lqual
noncomputable def Sub (z z' : Heap) : Prop := ∀ a o, z.get? a = some o → z'.get? a = some o
mutual
inductive Rep (c : Cx) (z : Heap) : Value → D → Prop
  | none : Rep c z .none .none
  | bool (b : Bool) : Rep c z (.bool b) (.bool b)
  | int (i : Int) (t : Tok) : Rep c z (.int i t) (.int i)
  | str (x : Str) (t : Tok) : PyData.strOk x = true → Rep c z (.str x t) (.str x)
  | tup {a : Addr} {vs : List Value} {n : Nat} {ds : List D} : z.get? a = some { cls := .type "tuple", data := .seq vs.toArray n } → RepL c z vs ds → Rep c z (.ref a) (.tup ds)
  | list {a : Addr} {vs : List Value} {n : Nat} {ds : List D} : z.get? a = some { cls := .type "list", data := .seq vs.toArray n } → RepL c z vs ds → Rep c z (.ref a) (.list ds)
  | dict {a : Addr} {ks : List Int} {kvs : List (Int × Value)} {vs : List Value} {ds : List D} : z.DictOf c.ik a kvs → (a == sysModules) = false → ks = kvs.map (·.1) → vs = kvs.map (·.2) → RepL c z vs ds → Rep c z (.ref a) (.dict ks ds)
  | body {x dx : Addr} {od : Obj} {vs : List Value} {ds : List D} : z.get? x = some (instObj c.C dx) → z.get? dx = some od → BodyDict c od vs → RepL c z vs ds → Rep c z (.ref x) (.body ds)
  | src {a : Addr} : c.q = some a → Rep c z (.ref a) .src
  | lam {f : Addr} {vb : Value} {d : D} : LamAt c z f vb → Rep c z vb d → Rep c z (.ref f) (.lam d)
inductive RepL (c : Cx) (z : Heap) : List Value → List D → Prop
  | nil : RepL c z [] []
  | cons {v : Value} {vs : List Value} {d : D} {ds : List D} : Rep c z v d → RepL c z vs ds → RepL c z (v :: vs) (d :: ds)
end
theorem Sub.refl (z : Heap) : Sub z z := fun _ _ e => e
theorem Sub.trans {z z' z'' : Heap} (x : Sub z z') (y : Sub z' z'') : Sub z z'' := fun a o e => y a o (x a o e)
theorem DictOf_keeps {c : Cx} {z z' : Heap} {a : Addr} {kvs : List (Int × Value)} (h : z.DictOf c.ik a kvs) (hs : Sub z z') : z'.DictOf c.ik a kvs := by
  obtain ⟨o, es, ep, ho, r⟩ := h
  exact ⟨o, es, ep, hs _ _ ho, r⟩
theorem LamAt.mono {c : Cx} {z z' : Heap} {f : Addr} {vb : Value} (h : LamAt c z f vb) (hs : Sub z z') : LamAt c z' f vb := by
  obtain ⟨pm, cd, ctv, cc, oc, h1, h2, h3, h4⟩ := h
  exact ⟨pm, cd, ctv, cc, oc, hs _ _ h1, hs _ _ h2, h3, h4.keeps hs⟩
/-- what a value is, by its data -/
noncomputable def RepI (c : Cx) (z : Heap) (v : Value) : D → Prop
  | .none => v = .none
  | .bool b => v = .bool b
  | .int i => ∃ t, v = .int i t
  | .str x => ∃ t, v = .str x t ∧ PyData.strOk x = true
  | .tup ds => ∃ a vs n, v = .ref a ∧ z.get? a = some { cls := .type "tuple", data := .seq vs.toArray n } ∧ RepL c z vs ds
  | .list ds => ∃ a vs n, v = .ref a ∧ z.get? a = some { cls := .type "list", data := .seq vs.toArray n } ∧ RepL c z vs ds
  | .dict ks ds => ∃ a kvs, v = .ref a ∧ z.DictOf c.ik a kvs ∧ (a == sysModules) = false ∧ ks = kvs.map (·.1) ∧ RepL c z (kvs.map (·.2)) ds
  | .body ds => ∃ x dx od vs, v = .ref x ∧ z.get? x = some (instObj c.C dx) ∧ z.get? dx = some od ∧ BodyDict c od vs ∧ RepL c z vs ds
  | .src => ∃ a, v = .ref a ∧ c.q = some a
  | .lam d => ∃ f vb, v = .ref f ∧ LamAt c z f vb ∧ Rep c z vb d
section
variable {c : Cx} {z : Heap} {v : Value}
theorem Rep.inv {d : D} (h : Rep c z v d) : RepI c z v d := by
  cases h with
  | none => exact rfl
  | bool b => exact rfl
  | int i t => exact ⟨t, rfl⟩
  | str x t h => exact ⟨t, rfl, h⟩
  | tup h r => exact ⟨_, _, _, rfl, h, r⟩
  | list h r => exact ⟨_, _, _, rfl, h, r⟩
  | dict h n e e' r => subst e'; exact ⟨_, _, rfl, h, n, e, r⟩
  | body h1 h2 h3 r => exact ⟨_, _, _, _, rfl, h1, h2, h3, r⟩
  | src h => exact ⟨_, rfl, h⟩
  | lam h r => exact ⟨_, _, rfl, h, r⟩
theorem Rep.none_inv (h : Rep c z v .none) : v = .none := h.inv
theorem Rep.bool_inv {b : Bool} (h : Rep c z v (.bool b)) : v = .bool b := h.inv
theorem Rep.int_inv {i : Int} (h : Rep c z v (.int i)) : ∃ t, v = .int i t := h.inv
theorem Rep.str_inv {x : Str} (h : Rep c z v (.str x)) : ∃ t, v = .str x t ∧ PyData.strOk x = true := h.inv
theorem Rep.tup_inv {ds : List D} (h : Rep c z v (.tup ds)) : ∃ a vs n, v = .ref a ∧ z.get? a = some { cls := .type "tuple", data := .seq vs.toArray n } ∧ RepL c z vs ds := h.inv
theorem Rep.list_inv {ds : List D} (h : Rep c z v (.list ds)) : ∃ a vs n, v = .ref a ∧ z.get? a = some { cls := .type "list", data := .seq vs.toArray n } ∧ RepL c z vs ds := h.inv
theorem Rep.dict_inv {ks : List Int} {ds : List D} (h : Rep c z v (.dict ks ds)) : ∃ a kvs, v = .ref a ∧ z.DictOf c.ik a kvs ∧ (a == sysModules) = false ∧ ks = kvs.map (·.1) ∧ RepL c z (kvs.map (·.2)) ds := h.inv
theorem Rep.body_inv {ds : List D} (h : Rep c z v (.body ds)) : ∃ x dx od vs, v = .ref x ∧ z.get? x = some (instObj c.C dx) ∧ z.get? dx = some od ∧ BodyDict c od vs ∧ RepL c z vs ds := h.inv
theorem Rep.src_inv (h : Rep c z v .src) : ∃ a, v = .ref a ∧ c.q = some a := h.inv
theorem Rep.lam_inv {d : D} (h : Rep c z v (.lam d)) : ∃ f vb, v = .ref f ∧ LamAt c z f vb ∧ Rep c z vb d := h.inv
theorem RepL.nil_inv {vs : List Value} (h : RepL c z vs []) : vs = [] := by cases h; rfl
theorem RepL.cons_inv {vs : List Value} {d : D} {ds : List D} (h : RepL c z vs (d :: ds)) : ∃ v ws, vs = v :: ws ∧ Rep c z v d ∧ RepL c z ws ds := by
  cases h with
  | cons h r => exact ⟨_, _, rfl, h, r⟩
end
theorem Rep.mono {c : Cx} {z z' : Heap} (hs : Sub z z') {v : Value} {d : D} (h : Rep c z v d) : Rep c z' v d :=
  Rep.rec (motive_1 := fun v d _ => Rep c z' v d) (motive_2 := fun vs ds _ => RepL c z' vs ds) .none .bool .int .str (fun h _ r => .tup (hs _ _ h) r) (fun h _ r => .list (hs _ _ h) r)
    (fun h n e e' _ r => .dict (DictOf_keeps h hs) n e e' r) (fun h1 h2 h3 _ r => .body (hs _ _ h1) (hs _ _ h2) h3 r) .src (fun h _ r => .lam (h.mono hs) r) .nil (fun _ _ h r => .cons h r) h
theorem RepL.mono {c : Cx} {z z' : Heap} (hs : Sub z z') {vs : List Value} {ds : List D} (h : RepL c z vs ds) : RepL c z' vs ds := by
  induction ds generalizing vs with
  | nil => obtain rfl := h.nil_inv; exact .nil
  | cons d ds ih => obtain ⟨v, ws, rfl, h1, h2⟩ := h.cons_inv; exact .cons (h1.mono hs) (ih h2)
theorem RepL.length {c : Cx} {z : Heap} {vs : List Value} {ds : List D} (h : RepL c z vs ds) : vs.length = ds.length := by
  induction ds generalizing vs with
  | nil => obtain rfl := h.nil_inv; rfl
  | cons d ds ih => obtain ⟨v, ws, rfl, _, h2⟩ := h.cons_inv; exact congrArg (· + 1) (ih h2)
theorem RepL.append {c : Cx} {z : Heap} {vs ws : List Value} {ds es : List D} (h : RepL c z vs ds) (k : RepL c z ws es) : RepL c z (vs ++ ws) (ds ++ es) := by
  induction ds generalizing vs with
  | nil => obtain rfl := h.nil_inv; exact k
  | cons d ds ih => obtain ⟨v, us, rfl, h1, h2⟩ := h.cons_inv; exact .cons h1 (ih h2)
theorem RepL.get {c : Cx} {z : Heap} {vs : List Value} {ds : List D} (h : RepL c z vs ds) {i : Nat} {d : D} (e : ds[i]? = some d) : ∃ v, vs[i]? = some v ∧ Rep c z v d := by
  induction ds generalizing vs i with
  | nil => cases e
  | cons d' ds ih =>
    obtain ⟨v, ws, rfl, h1, h2⟩ := h.cons_inv
    cases i with
    | zero => cases e; exact ⟨v, rfl, h1⟩
    | succ i => exact ih h2 (by simpa using e)
theorem RepL.getv {c : Cx} {z : Heap} {vs : List Value} {ds : List D} (h : RepL c z vs ds) {i : Nat} {v : Value} (e : vs[i]? = some v) : ∃ d, ds[i]? = some d ∧ Rep c z v d := by
  induction ds generalizing vs i with
  | nil => obtain rfl := h.nil_inv; cases e
  | cons d' ds ih =>
    obtain ⟨v, ws, rfl, h1, h2⟩ := h.cons_inv
    cases i with
    | zero => cases e; exact ⟨d', rfl, h1⟩
    | succ i => exact ih h2 (by simpa using e)
/-- the state behind what is known -/
abbrev Src := Int × Int
structure SrcAt (c : Cx) (z : Heap) (h : Heap) (σ : Src) (a : Addr) : Prop where
  off : z.get? a = none
  at_ : ∃ t u, h.IsList a #[.int σ.1 t, .int σ.2 u]
noncomputable def Tab (c : Cx) (z h : Heap) : Prop :=
  ∃ ps, h.get? c.P = some (tabObj ps) ∧ (ps = #[] ∨ ∃ cd, ps = #[rawInt c.lpos.line, rawInt c.lpos.col, .ref cd] ∧ z.CodeRec (.ref cd) c.lqual)
structure St0 (c : Cx) (z : Heap) (s : Shared) (σ : Src) : Prop where
  zh : Sub z s.heap
  base : Sub c.h₀ z
  gens : s.gens = #[]
  os : s.os = c.os
  src : ∀ a, c.q = some a → SrcAt c z s.heap σ a
  tabz : z.get? c.P = none
  tab : Tab c z s.heap
structure EPost (c : Cx) (z : Heap) (s : Shared) (z' : Heap) (s' : Shared) (σ' : Src) : Prop where
  st : St0 c z' s' σ'
  zz : Sub z z'
  zn : ∀ a, z'.get? a ≠ none → z.get? a ≠ none ∨ s.heap.get? a = none
  hk : ∀ a o, Fine c a → s.heap.get? a = some o → s'.heap.get? a = some o
theorem St0.fine {c : Cx} {z : Heap} {s : Shared} {σ : Src} (h : St0 c z s σ) {a : Addr} (ha : z.get? a ≠ none) : Fine c a := by
  constructor
  · intro e; exact ha (h.src a e).off
  · intro e; subst e; exact ha h.tabz
theorem EPost.refl {c : Cx} {z : Heap} {s : Shared} {σ : Src} (h : St0 c z s σ) : EPost c z s z s σ := ⟨h, .refl _, fun _ x => .inl x, fun _ _ _ e => e⟩
theorem EPost.trans {c : Cx} {z z' z'' : Heap} {s s' s'' : Shared} {σ' σ'' : Src} (x : EPost c z s z' s' σ') (y : EPost c z' s' z'' s'' σ'') : EPost c z s z'' s'' σ'' where
  st := y.st
  zz := x.zz.trans y.zz
  zn := fun a ha => by
    rcases y.zn a ha with h | h
    · exact x.zn a h
    · right
      cases e : s.heap.get? a with
      | none => rfl
      | some o => rw [x.hk a o (y.st.fine ha) e] at h; cases h
  hk := fun a o f e => y.hk a o f (x.hk a o f e)
/-- only tokens moved -/
theorem EPost.toks {c : Cx} {z : Heap} {s : Shared} {σ : Src} (h : St0 c z s σ) (t : Nat) : EPost c z s z { s with toks := t } σ :=
  ⟨⟨h.zh, h.base, h.gens, h.os, h.src, h.tabz, h.tab⟩, .refl _, fun _ x => .inl x, fun _ _ _ e => e⟩
/-- a partial map as a heap -/
noncomputable def ofMap (f : Addr → Option Obj) (n : Nat) : Heap := { objs := Array.ofFn (n := n) fun i => (f i).getD { cls := .none, data := .freed } }
theorem ofMap_get (f : Addr → Option Obj) (n : Nat) (hf : ∀ a o, f a = some o → a < n ∧ o.isFreed = false) (a : Addr) : (ofMap f n).get? a = f a := by
  cases e : f a with
  | some o =>
    obtain ⟨h1, h2⟩ := hf a o e
    refine Heap.get?_some_iff.mpr ⟨?_, h2⟩
    show (Array.ofFn _)[a]? = _
    rw [Array.getElem?_ofFn]
    simp [h1, e]
  | none =>
    cases e' : (ofMap f n).get? a with
    | none => rfl
    | some o =>
      obtain ⟨h1, h2⟩ := Heap.get?_some_iff.mp e'
      have h1' : (Array.ofFn (n := n) fun i => (f i).getD { cls := .none, data := .freed })[a]? = some o := h1
      rw [Array.getElem?_ofFn] at h1'
      split at h1'
      · simp [e] at h1'
        subst h1'
        cases h2
      · cases h1'
/-- frozen besides -/
theorem freeze {z h : Heap} (hs : Sub z h) (as : Addr → Prop) : ∃ z' : Heap, (∀ a, as a → z'.get? a = h.get? a) ∧ (∀ a, ¬ as a → z'.get? a = z.get? a) := by
  classical
  refine ⟨ofMap (fun a => if as a then h.get? a else z.get? a) h.objs.size, ?_, ?_⟩
  all_goals
    intro a ha
    rw [ofMap_get]
    · simp [ha]
    · intro b o hb
      split at hb
      · exact ⟨Heap.lt_size hb, (Heap.get?_some_iff.mp hb).2⟩
      · exact ⟨Heap.lt_size (hs _ _ hb), (Heap.get?_some_iff.mp hb).2⟩
/-- what was frozen in addition is still whole -/
theorem EPost.freeze {c : Cx} {z : Heap} {s : Shared} {σ : Src} {z' : Heap} {s' : Shared} (x : EPost c z s z' s' σ) (as : Addr → Prop) (h1 : ∀ a, as a → s.heap.get? a = none) (h2 : ∀ a, as a → Fine c a) :
    ∃ z'', EPost c z s z'' s' σ ∧ Sub z' z'' ∧ ∀ a, as a → z''.get? a = s'.heap.get? a := by
  obtain ⟨z'', h3, h4⟩ := Mine.freeze x.st.zh as
  have hs : Sub z' z'' := fun a o e => by
    by_cases ha : as a
    · rw [h3 a ha]; exact x.st.zh _ _ e
    · rw [h4 a ha]; exact e
  refine ⟨z'', ⟨⟨?_, x.st.base.trans hs, x.st.gens, x.st.os, ?_, ?_, ?_⟩, x.zz.trans hs, ?_, x.hk⟩, hs, h3⟩
  · intro a o e
    by_cases ha : as a
    · rw [h3 a ha] at e; exact e
    · rw [h4 a ha] at e; exact x.st.zh _ _ e
  · intro a ha
    refine ⟨?_, (x.st.src a ha).at_⟩
    have : ¬ as a := fun q => (h2 a q).1 ha
    rw [h4 a this]; exact (x.st.src a ha).off
  · have : ¬ as c.P := fun q => (h2 _ q).2 rfl
    rw [h4 _ this]; exact x.st.tabz
  · obtain ⟨ps, e1, e2⟩ := x.st.tab
    refine ⟨ps, e1, e2.imp id ?_⟩
    rintro ⟨cd, e3, e4⟩
    exact ⟨cd, e3, e4.keeps hs⟩
  · intro a ha
    by_cases q : as a
    · exact .inr (h1 a q)
    · rw [h4 a q] at ha; exact x.zn a ha
/-- the heap has grown, no more -/
theorem EPost.grown {c : Cx} {z : Heap} {s : Shared} {σ : Src} (h : St0 c z s σ) {h' : Heap} {tk : Nat} (hk : ∀ a o, s.heap.get? a = some o → h'.get? a = some o) :
    EPost c z s z { s with heap := h', toks := tk } σ := by
  refine ⟨⟨h.zh.trans hk, h.base, h.gens, h.os, fun a ha => ⟨(h.src a ha).off, ?_⟩, h.tabz, ?_⟩, .refl _, fun _ x => .inl x, fun a o _ e => hk a o e⟩
  · obtain ⟨t, u, e⟩ := (h.src a ha).at_
    exact ⟨t, u, e.at fun o e => hk _ _ e⟩
  · obtain ⟨ps, e1, e2⟩ := h.tab
    exact ⟨ps, hk _ _ e1, e2⟩
theorem fine_new {c : Cx} {z : Heap} {s : Shared} {σ : Src} (h : St0 c z s σ) {a : Addr} (ha : s.heap.get? a = none) : Fine c a := by
  constructor
  · intro e
    obtain ⟨t, u, o, e', _⟩ := (h.src a e).at_
    rw [ha] at e'; cases e'
  · intro e
    subst e
    obtain ⟨ps, e1, _⟩ := h.tab
    rw [ha] at e1; cases e1
/-- one new object, frozen -/
theorem EPost.alloc {c : Cx} {z : Heap} {s : Shared} {σ : Src} (h : St0 c z s σ) (o : Obj) (hf : o.isFreed = false) (tk : Nat) :
    ∃ z', EPost c z s z' { s with heap := s.heap.push o, toks := tk } σ ∧ z'.get? s.heap.objs.size = some o := by
  have h0 : s.heap.get? s.heap.objs.size = none := by
    cases e : s.heap.get? s.heap.objs.size with
    | none => rfl
    | some o => exact absurd (Heap.lt_size e) (Nat.lt_irrefl _)
  obtain ⟨z', h1, _, h3⟩ := (EPost.grown (tk := tk) h (h' := s.heap.push o) fun a o' e => Heap.get?_push_of_some _ e).freeze (fun a => a = s.heap.objs.size)
    (fun a e => by rw [e]; exact h0) (fun a e => by rw [e]; exact fine_new h h0)
  exact ⟨z', h1, by rw [h3 _ rfl]; exact Heap.get?_push_size _ hf⟩
/-- the heap has grown; one new object is taken up as frozen -/
theorem EPost.got {c : Cx} {z : Heap} {s : Shared} {σ : Src} (h : St0 c z s σ) {h' : Heap} {tk : Nat} (hk : ∀ a o, s.heap.get? a = some o → h'.get? a = some o) {D : Addr} {o : Obj}
    (hD : s.heap.get? D = none) (ho : h'.get? D = some o) : ∃ z', EPost c z s z' { s with heap := h', toks := tk } σ ∧ z'.get? D = some o := by
  obtain ⟨z', h1, _, h3⟩ := (EPost.grown (tk := tk) h hk).freeze (fun a => a = D) (fun a e => by rw [e]; exact hD) (fun a e => by rw [e]; exact fine_new h hD)
  exact ⟨z', h1, by rw [h3 _ rfl]; exact ho⟩
theorem get_size (h : Heap) : h.get? h.objs.size = none := by
  cases e : h.get? h.objs.size with
  | none => rfl
  | some o => exact absurd (Heap.lt_size e) (Nat.lt_irrefl _)
theorem get_ge {h : Heap} {a : Addr} (ha : h.objs.size ≤ a) : h.get? a = none := by
  cases e : h.get? a with
  | none => rfl
  | some o => exact absurd (Heap.lt_size e) (Nat.not_lt.mpr ha)
end Mine
end
section
open PySem PySem.Calls PySem.W PyProof.Rows
namespace Mine
noncomputable def bodyNames : List Str := ["name", "arg_count", "locals", "blocks", "spots"]
structure Cx.Ok (c : Cx) : Prop where
  X : c.K.In c.h₀
  T : ∃ p loose mg mb, TopRead p loose mg mb c.h₀
  qh : ∀ a, c.q = some a → c.h₀.get? a = none
  sys : ∃ o, c.h₀.get? sysModules = some o
  cls : ∃ cd, clsIn c.K c.C = some cd ∧ cd.hasDict = true
  ga : findIn c.K (.ref c.C) "__getattribute__" = some (some (.builtin "object.__getattribute__"))
  no : ∀ x ∈ bodyNames, findIn c.K (.ref c.C) x = some none
noncomputable def Room (A : Around) (n : Nat) : Prop := A.handled = none ∧ A.depth + 2 * n < 900 ∧ A.units + 40 * n < 9000
theorem Room.le {A : Around} {n m : Nat} (h : Room A n) (hm : m ≤ n) : Room A m := ⟨h.1, by have := h.2.1; lia, by have := h.2.2; lia⟩
theorem Room.units {A : Around} {n : Nat} (h : Room A n) : A.units < cLine := by have := h.2.2; rw [cLine_is]; lia
theorem Room.units64 {A : Around} {n : Nat} (h : Room A n) : A.units + 64 < cLine := by have := h.2.2; rw [cLine_is]; lia
theorem Room.depth {A : Around} {n : Nat} (h : Room A n) : A.depth < recursionLimit := by have := h.2.1; show A.depth < 1000; lia
theorem Room.deeper {A : Around} {n : Nat} {env : Env} (h : Room A (n + 1)) : Room (A.deeper env) n :=
  ⟨h.1, by have := h.2.1; show A.depth + 1 + _ < _; lia, by have := h.2.2; show A.units + 3 + _ < _; lia⟩
inductive Cell where
  | un
  | frz (d : D)
  | own (d : D)
  | ob (ds : List D)
abbrev Vars := List Cell
abbrev EX := Vars → Src → Option (D × Src)
abbrev TX := Vars → Src → Option (Bool × Src)
abbrev LX := Vars → Src → Option (List D × Src)
noncomputable def Var (env : Env) (h : Heap) (x : Str) (v : Value) : Prop :=
  (env.kindOf x = some .local ∧ ∃ m, h.Ns env.locals m ∧ m x = some v) ∨
  ((env.kindOf x = some .cell ∨ env.kindOf x = some .free) ∧ ∃ a, env.cells.lookup x = some a ∧ h.IsCell a (some v))
noncomputable def ORep (c : Cx) (z : Heap) (o : Obj) : D → Prop
  | .list ds => ∃ vs n, o = { cls := .type "list", data := .seq vs.toArray n } ∧ RepL c z vs ds
  | .dict ks ds => ∃ kvs : List (Int × Value), o.IsDictOf c.ik kvs ∧ ks = kvs.map (·.1) ∧ RepL c z (kvs.map (·.2)) ds
  | _ => False
inductive ObRep (c : Cx) (z h : Heap) (ad : Addr) (v : Value) (ds : List D) : Prop
  | mk (x dx : Addr) (od : Obj) (v1 v2 v3 v5 : Value) (d1 d2 d3 : D) (bs : List D) (d5 : D) (o : Obj) (e : v = .ref x) (ed : ds = [d1, d2, d3, .list bs, d5]) (h1 : z.get? x = some (instObj c.C dx)) (h2 : z.get? dx = some od)
    (h3 : BodyDict c od [v1, v2, v3, .ref ad, v5]) (h4 : RepL c z [v1, v2, v3, v5] [d1, d2, d3, d5]) (h5 : h.get? ad = some o) (h6 : ORep c z o (.list bs)) : ObRep c z h ad v ds
inductive OwnOk (c : Cx) (z : Heap) (env : Env) (h : Heap) (ad : Addr) (x : Str) (d : D) : Prop
  | mk (h1 : Var env h x (.ref ad)) (h2 : z.get? ad = none) (h3 : Fine c ad) (h4 : (ad == sysModules) = false) (o : Obj) (h5 : h.get? ad = some o) (h6 : ORep c z o d) : OwnOk c z env h ad x d
inductive ObOk (c : Cx) (z : Heap) (env : Env) (h : Heap) (ad : Addr) (x : Str) (ds : List D) : Prop
  | mk (v : Value) (h1 : Var env h x v) (h2 : z.get? ad = none) (h3 : Fine c ad) (h4 : ObRep c z h ad v ds) : ObOk c z env h ad x ds
noncomputable def CellOk (c : Cx) (z : Heap) (env : Env) (h : Heap) (ad : Addr) (x : Str) : Cell → Prop
  | .un => True
  | .frz d => ∃ v, Var env h x v ∧ Rep c z v d
  | .own d => OwnOk c z env h ad x d
  | .ob ds => ObOk c z env h ad x ds
structure VSt (c : Cx) (z : Heap) (env : Env) (s : Shared) (nm : List Str) (ρ : Vars) (ad : Nat → Addr) (σ : Src) : Prop where
  st : St0 c z s σ
  kind : env.scope.kind = .function
  glob : env.globals = mainGlobals
  blt : env.builtins = builtinsNs
  fL : Fine c env.locals
  fC : ∀ x a, env.cells.lookup x = some a → Fine c a
  vars : ∀ i x k, nm[i]? = some x → ρ[i]? = some k → CellOk c z env s.heap (ad i) x k
theorem ORep.mono {c : Cx} {z z' : Heap} {o : Obj} {d : D} (h : ORep c z o d) (hs : Sub z z') : ORep c z' o d := by
  cases d <;> try exact h.elim
  · obtain ⟨vs, n, e, r⟩ := h; exact ⟨vs, n, e, r.mono hs⟩
  · obtain ⟨kvs, e, e2, r⟩ := h; exact ⟨kvs, e, e2, r.mono hs⟩
theorem Var.keep {c : Cx} {env : Env} {h h' : Heap} {x : Str} {v : Value} (hv : Var env h x v) (fL : Fine c env.locals) (fC : ∀ x a, env.cells.lookup x = some a → Fine c a)
    (hk : ∀ a o, Fine c a → h.get? a = some o → h'.get? a = some o) : Var env h' x v := by
  rcases hv with ⟨h1, m, h2, h3⟩ | ⟨h1, a, h2, o, h3, h4⟩
  · exact .inl ⟨h1, m, h2.at' fun o e => hk _ _ fL e, h3⟩
  · exact .inr ⟨h1, a, h2, o, hk _ _ (fC _ _ h2) h3, h4⟩
theorem ObRep.keep {c : Cx} {z z' h h' : Heap} {ad : Addr} {v : Value} {ds : List D} (x : ObRep c z h ad v ds) (hs : Sub z z') (hk : ∀ o, h.get? ad = some o → h'.get? ad = some o) : ObRep c z' h' ad v ds := by
  refine gen ?_; intro GG kGG
  obtain ⟨x, dx, od, v1, v2, v3, v5, d1, d2, d3, bs, d5, o, e1, e2, e3, e4, e5, e6, e7, e8⟩ := x
  refine kGG ?_; clear kGG
  exact ⟨x, dx, od, v1, v2, v3, v5, d1, d2, d3, bs, d5, o, e1, e2, hs _ _ e3, hs _ _ e4, e5, e6.mono hs, hk _ e7, e8.mono hs⟩
theorem off_keep {c : Cx} {z z' : Heap} {s s' : Shared} {σ' : Src} (x : EPost c z s z' s' σ') {a : Addr} {o : Obj} (h1 : z.get? a = none) (h2 : s.heap.get? a = some o) : z'.get? a = none := by
  cases e : z'.get? a with
  | none => rfl
  | some o' =>
    rcases x.zn a (by rw [e]; exact fun q => nomatch q) with h | h
    · exact absurd h1 h
    · rw [h2] at h; cases h
theorem CellOk.post {c : Cx} {z z' : Heap} {env : Env} {s s' : Shared} {ad : Addr} {x : Str} {k : Cell} {σ' : Src} (h : CellOk c z env s.heap ad x k) (fL : Fine c env.locals)
    (fC : ∀ x a, env.cells.lookup x = some a → Fine c a) (p : EPost c z s z' s' σ') : CellOk c z' env s'.heap ad x k := by
  cases k with
  | un => trivial
  | frz d => obtain ⟨v, h1, h2⟩ := h; exact ⟨v, h1.keep fL fC p.hk, h2.mono p.zz⟩
  | own d =>
    refine gen ?_; intro GG kGG
    obtain ⟨h1, h2, h3, h4, o, h5, h6⟩ := h
    refine kGG ?_; clear kGG
    exact ⟨h1.keep fL fC p.hk, off_keep p h2 h5, h3, h4, o, p.hk _ _ h3 h5, h6.mono p.zz⟩
  | ob ds =>
    refine gen ?_; intro GG kGG
    obtain ⟨v, h1, h2, h3, h4⟩ := h
    have h5 := h4
    obtain ⟨_, _, _, _, _, _, _, _, _, _, _, _, o, _, _, _, _, _, _, h7, _⟩ := h5
    refine kGG ?_; clear kGG
    exact ⟨v, h1.keep fL fC p.hk, off_keep p h2 h7, h3, h4.keep p.zz fun o e => p.hk _ _ h3 e⟩
theorem VSt.post {c : Cx} {z z' : Heap} {env : Env} {s s' : Shared} {nm : List Str} {ρ : Vars} {ad : Nat → Addr} {σ σ' : Src} (h : VSt c z env s nm ρ ad σ) (p : EPost c z s z' s' σ') : VSt c z' env s' nm ρ ad σ' :=
  ⟨p.st, h.kind, h.glob, h.blt, h.fL, h.fC, fun i x k h1 h2 => (h.vars i x k h1 h2).post h.fL h.fC p⟩
/-- read for looking only: frozen, or a frame's own -/
noncomputable def BRep (c : Cx) (z h : Heap) (v : Value) (d : D) : Prop :=
  Rep c z v d ∨ ∃ a o, v = .ref a ∧ z.get? a = none ∧ Fine c a ∧ (a == sysModules) = false ∧ h.get? a = some o ∧ ORep c z o d
theorem BRep.post {c : Cx} {z z' : Heap} {s s' : Shared} {σ' : Src} {v : Value} {d : D} (h : BRep c z s.heap v d) (p : EPost c z s z' s' σ') : BRep c z' s'.heap v d := by
  rcases h with h | ⟨a, o, e, h1, h2, h3, h4, h5⟩
  · exact .inl (h.mono p.zz)
  · exact .inr ⟨a, o, e, off_keep p h1 h4, h2, h3, p.hk _ _ h2 h4, h5.mono p.zz⟩
noncomputable def no2 : Value → Shared → Prop := fun _ _ => False
abbrev XQ (c : Cx) (z : Heap) (s : Shared) (σ' : Src) (d : D) : Value → Shared → Prop := fun v s' => ∃ z', EPost c z s z' s' σ' ∧ Rep c z' v d
abbrev BQ (c : Cx) (z : Heap) (s : Shared) (σ' : Src) (d : D) : Value → Shared → Prop := fun v s' => ∃ z', EPost c z s z' s' σ' ∧ BRep c z' s'.heap v d
abbrev TQ (c : Cx) (z : Heap) (s : Shared) (σ' : Src) (b : Bool) : Bool → Shared → Prop := fun v s' => v = b ∧ ∃ z', EPost c z s z' s' σ'
abbrev LQ (c : Cx) (z : Heap) (s : Shared) (σ' : Src) (ds : List D) : List Value → Shared → Prop := fun vs s' => ∃ z', EPost c z s z' s' σ' ∧ RepL c z' vs ds
/-- e gives what f gives, frozen -/
noncomputable def SX (c : Cx) (n : Nat) (sc : Scope) (nm : List Str) (e : Expr) (f : EX) : Prop :=
  ∀ ⦃A env z s ρ ad σ d σ'⦄, Room A n → env.scope = sc → VSt c z env s nm ρ ad σ → f ρ σ = some (d, σ') →
    wpAny (model c.prog c.w) A (eval e env) (XQ c z s σ' d) no2 s
/-- e gives what f gives, to look at -/
noncomputable def SB (c : Cx) (n : Nat) (sc : Scope) (nm : List Str) (e : Expr) (f : EX) : Prop :=
  ∀ ⦃A env z s ρ ad σ d σ'⦄, Room A n → env.scope = sc → VSt c z env s nm ρ ad σ → f ρ σ = some (d, σ') →
    wpAny (model c.prog c.w) A (eval e env) (BQ c z s σ' d) no2 s
/-- e as a test -/
noncomputable def ST (c : Cx) (n : Nat) (sc : Scope) (nm : List Str) (e : Expr) (f : TX) : Prop :=
  ∀ ⦃A env z s ρ ad σ b σ'⦄, Room A n → env.scope = sc → VSt c z env s nm ρ ad σ → f ρ σ = some (b, σ') →
    wpAny (model c.prog c.w) A (isTrue e env (eval e env)) (TQ c z s σ' b) no2 s
/-- a list of expressions, as a call or a display takes them -/
noncomputable def SL (c : Cx) (n : Nat) (sc : Scope) (nm : List Str) (es : List Expr) (f : LX) : Prop :=
  ∀ ⦃A env z s ρ ad σ ds σ'⦄ ⦃pos : Pos⦄, Room A n → env.scope = sc → VSt c z env s nm ρ ad σ → f ρ σ = some (ds, σ') →
    wpAny (model c.prog c.w) A (spliced (backTo pos (starEach es env))) (LQ c z s σ' ds) no2 s
theorem qgen {M : Model} {A : Around} {α : Type} {t : Sem α} {s : Shared} {Q0 : α → Shared → Prop} {E0 : Value → Shared → Prop} (h : ∀ Q : α → Shared → Prop, (∀ v s', Q0 v s' → Q v s') → wpAny M A t Q E0 s) : wpAny M A t Q0 E0 s := h Q0 fun _ _ x => x
theorem SX.toB {c : Cx} {n : Nat} {sc : Scope} {nm : List Str} {e : Expr} {f : EX} (h : SX c n sc nm e f) : SB c n sc nm e f := by
  intro A env z s ρ ad σ d σ' R hs V hf
  refine qgen ?_; intro QQ kQ
  exact wpAny_mono (h R hs V hf) (fun v s' ⟨z', p, r⟩ => (kQ _ _ ⟨z', p, .inl r⟩)) fun _ _ x => x
/-- sequencing, at the level of the logic -/
theorem monoX {α : Type} {c : Cx} {A : Around} {m : Sem α} {z : Heap} {s : Shared} {σ' : Src} {P : Heap → α → Shared → Prop} {Q : α → Shared → Prop} {E : Value → Shared → Prop}
    (h : wpAny (model c.prog c.w) A m (fun v s' => ∃ z', EPost c z s z' s' σ' ∧ P z' v s') no2 s)
    (hk : ∀ v s' z', EPost c z s z' s' σ' → P z' v s' → Q v s') : wpAny (model c.prog c.w) A m Q E s :=
  wpAny_mono h (fun v s' ⟨z', p, r⟩ => hk v s' z' p r) fun _ _ x => x.elim
/-! ### names, constants -/
noncomputable def xname (i : Nat) : EX := fun ρ σ => match ρ[i]? with
  | some (.frz d) => some (d, σ)
  | _ => none
noncomputable def bname (i : Nat) : EX := fun ρ σ => match ρ[i]? with
  | some (.frz d) => some (d, σ)
  | some (.own d) => some (d, σ)
  | _ => none
noncomputable def xk (d : D) : EX := fun _ σ => some (d, σ)
section
variable {β : Type} {y : β} {G : Prop}
theorem nos (h : (Option.none : Option β) = some y) : G := nomatch h
theorem omD {o : Option (D × Src)} {K : D → Src → Option β} (h : (match o with | some (d, σ) => K d σ | none => none) = some y) (k : ∀ d σ, o = some (d, σ) → K d σ = some y → G) : G := by
  cases o with
  | none => cases h
  | some p => exact k p.1 p.2 rfl h
theorem omL {o : Option (List D × Src)} {K : List D → Src → Option β} (h : (match o with | some (d, σ) => K d σ | none => none) = some y) (k : ∀ d σ, o = some (d, σ) → K d σ = some y → G) : G := by
  cases o with
  | none => cases h
  | some p => exact k p.1 p.2 rfl h
theorem omK {o : Option (List Cell × Src)} {K : List Cell → Src → Option β} (h : (match o with | some (d, σ) => K d σ | none => none) = some y) (k : ∀ d σ, o = some (d, σ) → K d σ = some y → G) : G := by
  cases o with
  | none => cases h
  | some p => exact k p.1 p.2 rfl h
theorem omI {o : Option (D × Src)} {K : Int → Src → Option β} (h : (match o with | some (.int d, σ) => K d σ | _ => none) = some y) (k : ∀ d σ, o = some (.int d, σ) → K d σ = some y → G) : G := by
  rcases o with _ | ⟨d, σ⟩
  · cases h
  · cases d with
    | int i => exact k i σ rfl h
    | _ => cases h
theorem omT {o : Option (D × Src)} {K : List D → Src → Option β} (h : (match o with | some (.list d, σ) => K d σ | _ => none) = some y) (k : ∀ d σ, o = some (.list d, σ) → K d σ = some y → G) : G := by
  rcases o with _ | ⟨d, σ⟩
  · cases h
  · cases d with
    | list i => exact k i σ rfl h
    | _ => cases h
theorem omS {o : Option (D × Src)} {K : List D → Src → Option β} (h : (match o with | some (.body d, σ) => K d σ | _ => none) = some y) (k : ∀ d σ, o = some (.body d, σ) → K d σ = some y → G) : G := by
  rcases o with _ | ⟨d, σ⟩
  · cases h
  · cases d with
    | body i => exact k i σ rfl h
    | _ => cases h
theorem oD {o : Option D} {K : D → Option β} (h : (match o with | some d => K d | none => none) = some y) (k : ∀ d, o = some d → K d = some y → G) : G := by
  cases o with
  | none => cases h
  | some d => exact k d rfl h
theorem oLst {d : D} {K : List D → Option β} (h : (match d with | .list l => K l | _ => none) = some y) : ∃ l, d = .list l ∧ K l = some y := by
  cases d <;> first | exact ⟨_, rfl, h⟩ | exact nos h
theorem omDct {o : Option (D × Src)} {K : List Int → List D → Src → Option β} (h : (match o with | some (.dict ks d, σ) => K ks d σ | _ => none) = some y) (k : ∀ ks d σ, o = some (.dict ks d, σ) → K ks d σ = some y → G) : G := by
  rcases o with _ | ⟨d, σ⟩
  · exact nos h
  · cases d with
    | dict ks d => exact k ks d σ rfl h
    | _ => exact nos h
theorem omOwn {o : Option Cell} {K : List D → Option β} (h : (match o with | some (.own (.list d)) => K d | _ => none) = some y) (k : ∀ d, o = some (.own (.list d)) → K d = some y → G) : G := by
  rcases o with _ | e
  · exact nos h
  · cases e with
    | own d => cases d with
      | list d => exact k d rfl h
      | _ => exact nos h
    | _ => exact nos h
theorem oIf {p : Prop} [Decidable p] {x : Option β} (h : (if p then x else none) = some y) (k : p → x = some y → G) : G := by
  by_cases hp : p
  · rw [if_pos hp] at h; exact k hp h
  · rw [if_neg hp] at h; cases h
end
section
variable {c : Cx} {n : Nat} {sc : Scope} {nm : List Str}
theorem load_var {A : Around} {env : Env} {s : Shared} {x : Str} {v : Value} {Q : Value → Shared → Prop} {E : Value → Shared → Prop} {M : Model} (hk : env.scope.kind = .function) (hv : Var env s.heap x v)
    (hn : (x == ("__classdict__" : Str)) = false) (h : Q v s) : wpAny M A (loadName env x) Q E s := by
  rcases hv with ⟨h1, m, h2, h3⟩ | ⟨h1, a, h2, h3⟩
  · exact wpAny_loadName_local hk h1 h2 h3 h
  · rcases h1 with h1 | h1
    · exact wpAny_loadName_cell hk h1 h2 h3 h
    · exact wpAny_loadName_free hk h1 h2 h3 h hn
theorem SX.name {i : Nat} {x : Str} {pos : Pos} (hi : nm[i]? = some x) (hd : (x == ("__debug__" : Str)) = false := by decide +kernel) (hn : (x == ("__classdict__" : Str)) = false := by decide +kernel) :
    SX c n sc nm (.Name x pos) (xname i) := by
  intro A env z s ρ ad σ d σ' R hs V hf
  refine qgen ?_; intro QQ kQ
  unfold xname at hf
  split at hf <;> try cases hf
  rename_i d hr
  obtain ⟨v, h1, h2⟩ := V.vars i x _ hi hr
  exact wpAny_Name (load_var V.kind h1 hn (kQ _ _ ⟨z, .refl V.st, h2⟩)) hd
theorem SB.name {i : Nat} {x : Str} {pos : Pos} (hi : nm[i]? = some x) (hd : (x == ("__debug__" : Str)) = false := by decide +kernel) (hn : (x == ("__classdict__" : Str)) = false := by decide +kernel) :
    SB c n sc nm (.Name x pos) (bname i) := by
  intro A env z s ρ ad σ d σ' R hs V hf
  refine qgen ?_; intro QQ kQ
  unfold bname at hf
  split at hf <;> try cases hf
  · rename_i d hr
    obtain ⟨v, h1, h2⟩ := V.vars i x _ hi hr
    exact wpAny_Name (load_var V.kind h1 hn (kQ _ _ ⟨z, .refl V.st, .inl h2⟩)) hd
  · rename_i d hr
    refine gen ?_; intro GG kGG
    obtain ⟨h1, h2, h3, h4, o, h5, h6⟩ := V.vars i x _ hi hr
    refine kGG ?_; clear kGG
    exact wpAny_Name (load_var V.kind h1 hn (kQ _ _ ⟨z, .refl V.st, .inr ⟨_, o, rfl, h2, h3, h4, h5, h6⟩⟩)) hd
theorem SX.kint {i : Int} {k : Nat} {pos : Pos} : SX c n sc nm (.Constant (.int i) k pos) (xk (.int i)) := by
  intro A env z s ρ ad σ d σ' R hs V hf
  refine qgen ?_; intro QQ kQ
  cases hf
  exact wpAny_Constant_int (kQ _ _ ⟨z, .toks V.st _, .int _ _⟩)
theorem SX.knone {k : Nat} {pos : Pos} : SX c n sc nm (.Constant .none k pos) (xk .none) := by
  intro A env z s ρ ad σ d σ' R hs V hf
  refine qgen ?_; intro QQ kQ
  cases hf
  exact wpAny_Constant_none (kQ _ _ ⟨z, .refl V.st, .none⟩)
theorem SX.kbool {b : Bool} {k : Nat} {pos : Pos} : SX c n sc nm (.Constant (.bool b) k pos) (xk (.bool b)) := by
  intro A env z s ρ ad σ d σ' R hs V hf
  refine qgen ?_; intro QQ kQ
  cases hf
  exact wpAny_Constant_bool (kQ _ _ ⟨z, .refl V.st, .bool _⟩)
theorem SX.kstr {x : Str} {k : Nat} {pos : Pos} (hx : PyData.strOk x = true := by decide +kernel) : SX c n sc nm (.Constant (.str x) k pos) (xk (.str x)) := by
  intro A env z s ρ ad σ d σ' R hs V hf
  refine qgen ?_; intro QQ kQ
  cases hf
  exact wpAny_Constant_str (kQ _ _ ⟨z, .toks V.st _, .str _ _ hx⟩)
/-! ### lists of expressions -/
noncomputable def lnil : LX := fun _ σ => some ([], σ)
noncomputable def lcons (f : EX) (g : LX) : LX := fun ρ σ => match f ρ σ with
  | some (d, σ) => match g ρ σ with
    | some (ds, σ) => some (d :: ds, σ)
    | none => none
  | none => none
theorem SL.nil : SL c n sc nm [] lnil := by
  intro A env z s ρ ad σ ds σ' pos R hs V hf
  refine qgen ?_; intro QQ kQ
  cases hf
  exact wpAny_items_nil (kQ _ _ ⟨z, .refl V.st, .nil⟩)
theorem SL.cons {e : Expr} {es : List Expr} {f : EX} {g : LX} (h1 : SX c n sc nm e f) (h2 : SL c n sc nm es g) (he : ∀ env, starEach (e :: es) env = (false, eval e env) :: starEach es env := by intro; rfl) :
    SL c n sc nm (e :: es) (lcons f g) := by
  intro A env z s ρ ad σ ds σ' pos R hs V hf
  refine qgen ?_; intro QQ kQ
  refine gen ?_; intro GG kGG
  unfold lcons at hf
  first | (refine omD hf ?_; clear hf; intro d σ₁ hd hf; try cases hf) | (refine omL hf ?_; clear hf; intro d σ₁ hd hf; try cases hf) | (refine omB hf ?_; clear hf; intro d σ₁ hd hf; try cases hf) | (refine omC hf ?_; clear hf; intro d σ₁ hd hf; try cases hf) | (refine omK hf ?_; clear hf; intro d σ₁ hd hf; try cases hf) | (refine omI hf ?_; clear hf; intro d σ₁ hd hf; try cases hf) | (refine omT hf ?_; clear hf; intro d σ₁ hd hf; try cases hf) | (refine omS hf ?_; clear hf; intro d σ₁ hd hf; try cases hf) | ((split at hf <;> try cases hf); rename_i d σ₁ hd)
  first | (refine omD hf ?_; clear hf; intro ds' σ₂ hds hf; try cases hf) | (refine omL hf ?_; clear hf; intro ds' σ₂ hds hf; try cases hf) | (refine omB hf ?_; clear hf; intro ds' σ₂ hds hf; try cases hf) | (refine omC hf ?_; clear hf; intro ds' σ₂ hds hf; try cases hf) | (refine omK hf ?_; clear hf; intro ds' σ₂ hds hf; try cases hf) | (refine omI hf ?_; clear hf; intro ds' σ₂ hds hf; try cases hf) | (refine omT hf ?_; clear hf; intro ds' σ₂ hds hf; try cases hf) | (refine omS hf ?_; clear hf; intro ds' σ₂ hds hf; try cases hf) | ((split at hf <;> try cases hf); rename_i ds' σ₂ hds)
  refine kGG ?_; clear kGG
  refine wpAny_items_cons (monoX (h1 R hs V hd) fun v s₁ z₁ p r => ?_) (he env)
  refine monoX (h2 R hs (V.post p) hds) fun vs s₂ z₂ p₂ r₂ => ?_
  exact (kQ _ _ ⟨z₂, p.trans p₂, .cons (r.mono p₂.zz) r₂⟩)
noncomputable def xtup (g : LX) : EX := fun ρ σ => match g ρ σ with
  | some (ds, σ) => if ds.length ≤ 1000 then some (.tup ds, σ) else none
  | none => none
noncomputable def xlist (g : LX) : EX := fun ρ σ => match g ρ σ with
  | some (ds, σ) => if ds.length ≤ 1000 then some (.list ds, σ) else none
  | none => none
theorem small_fits {k : Nat} (h : k ≤ 1000) : k ≤ sizeLine := by rw [sizeLine_eq]; lia
theorem SX.tup {es : List Expr} {k : Nat} {pos : Pos} {g : LX} (h : SL c n sc nm es g) : SX c n sc nm (.Tuple es k pos) (xtup g) := by
  intro A env z s ρ ad σ d σ' R hs V hf
  refine qgen ?_; intro QQ kQ
  refine gen ?_; intro GG kGG
  unfold xtup at hf
  first | (refine omD hf ?_; clear hf; intro ds σ₁ hds hf; try cases hf) | (refine omL hf ?_; clear hf; intro ds σ₁ hds hf; try cases hf) | (refine omB hf ?_; clear hf; intro ds σ₁ hds hf; try cases hf) | (refine omC hf ?_; clear hf; intro ds σ₁ hds hf; try cases hf) | (refine omK hf ?_; clear hf; intro ds σ₁ hds hf; try cases hf) | (refine omI hf ?_; clear hf; intro ds σ₁ hds hf; try cases hf) | (refine omT hf ?_; clear hf; intro ds σ₁ hds hf; try cases hf) | (refine omS hf ?_; clear hf; intro ds σ₁ hds hf; try cases hf) | ((split at hf <;> try cases hf); rename_i ds σ₁ hds)
  first | (refine oIf hf ?_; clear hf; intro hl hf; cases hf) | ((split at hf <;> cases hf); rename_i hl)
  refine kGG ?_; clear kGG
  refine wpAny_Tuple (monoX (h R hs V hds) fun vs s₁ z₁ p r => ?_)
  refine ⟨small_fits (by rw [r.length]; exact hl), ?_⟩
  obtain ⟨z₂, p₂, e⟩ := EPost.alloc p.st { cls := .type "tuple", data := .seq vs.toArray } rfl s₁.toks
  exact (kQ _ _ ⟨z₂, p.trans p₂, .tup e (r.mono p₂.zz)⟩)
theorem SX.list {es : List Expr} {pos : Pos} {g : LX} (h : SL c n sc nm es g) : SX c n sc nm (.List es pos) (xlist g) := by
  intro A env z s ρ ad σ d σ' R hs V hf
  refine qgen ?_; intro QQ kQ
  refine gen ?_; intro GG kGG
  unfold xlist at hf
  first | (refine omD hf ?_; clear hf; intro ds σ₁ hds hf; try cases hf) | (refine omL hf ?_; clear hf; intro ds σ₁ hds hf; try cases hf) | (refine omB hf ?_; clear hf; intro ds σ₁ hds hf; try cases hf) | (refine omC hf ?_; clear hf; intro ds σ₁ hds hf; try cases hf) | (refine omK hf ?_; clear hf; intro ds σ₁ hds hf; try cases hf) | (refine omI hf ?_; clear hf; intro ds σ₁ hds hf; try cases hf) | (refine omT hf ?_; clear hf; intro ds σ₁ hds hf; try cases hf) | (refine omS hf ?_; clear hf; intro ds σ₁ hds hf; try cases hf) | ((split at hf <;> try cases hf); rename_i ds σ₁ hds)
  first | (refine oIf hf ?_; clear hf; intro hl hf; cases hf) | ((split at hf <;> cases hf); rename_i hl)
  refine kGG ?_; clear kGG
  refine wpAny_List (monoX (h R hs V hds) fun vs s₁ z₁ p r => ?_)
  refine ⟨small_fits (by rw [r.length]; exact hl), ?_⟩
  obtain ⟨z₂, p₂, e⟩ := EPost.alloc p.st { cls := .type "list", data := .seq vs.toArray } rfl s₁.toks
  exact (kQ _ _ ⟨z₂, p.trans p₂, .list e (r.mono p₂.zz)⟩)
/-! ### two operands -/
noncomputable def op2 (g : D → D → Option D) (f1 f2 : EX) : EX := fun ρ σ => match f1 ρ σ with
  | some (d, σ) => match f2 ρ σ with
    | some (e, σ) => match g d e with
      | some r => some (r, σ)
      | none => none
    | none => none
  | none => none
/-- an operation on two values that are looked at -/
noncomputable def Op2 (c : Cx) (n : Nat) (t : Value → Value → Sem Value) (g : D → D → Option D) : Prop :=
  ∀ ⦃A z s σ v w d e r⦄, Room A n → St0 c z s σ → BRep c z s.heap v d → BRep c z s.heap w e → g d e = some r →
    wpAny (model c.prog c.w) A (t v w) (XQ c z s σ r) no2 s
theorem SX.binop {op : Operator} {l r : Expr} {pos : Pos} {g : D → D → Option D} {f1 f2 : EX} (h : Op2 c n (binaryOp op) g) (h1 : SB c n sc nm l f1) (h2 : SB c n sc nm r f2) :
    SX c n sc nm (.BinOp l op r pos) (op2 g f1 f2) := by
  intro A env z s ρ ad σ d σ' R hs V hf
  refine qgen ?_; intro QQ kQ
  refine gen ?_; intro GG kGG
  unfold op2 at hf
  first | (refine omD hf ?_; clear hf; intro d1 σ₁ hd1 hf; try cases hf) | (refine omL hf ?_; clear hf; intro d1 σ₁ hd1 hf; try cases hf) | (refine omB hf ?_; clear hf; intro d1 σ₁ hd1 hf; try cases hf) | (refine omC hf ?_; clear hf; intro d1 σ₁ hd1 hf; try cases hf) | (refine omK hf ?_; clear hf; intro d1 σ₁ hd1 hf; try cases hf) | (refine omI hf ?_; clear hf; intro d1 σ₁ hd1 hf; try cases hf) | (refine omT hf ?_; clear hf; intro d1 σ₁ hd1 hf; try cases hf) | (refine omS hf ?_; clear hf; intro d1 σ₁ hd1 hf; try cases hf) | ((split at hf <;> try cases hf); rename_i d1 σ₁ hd1)
  first | (refine omD hf ?_; clear hf; intro d2 σ₂ hd2 hf; try cases hf) | (refine omL hf ?_; clear hf; intro d2 σ₂ hd2 hf; try cases hf) | (refine omB hf ?_; clear hf; intro d2 σ₂ hd2 hf; try cases hf) | (refine omC hf ?_; clear hf; intro d2 σ₂ hd2 hf; try cases hf) | (refine omK hf ?_; clear hf; intro d2 σ₂ hd2 hf; try cases hf) | (refine omI hf ?_; clear hf; intro d2 σ₂ hd2 hf; try cases hf) | (refine omT hf ?_; clear hf; intro d2 σ₂ hd2 hf; try cases hf) | (refine omS hf ?_; clear hf; intro d2 σ₂ hd2 hf; try cases hf) | ((split at hf <;> try cases hf); rename_i d2 σ₂ hd2)
  first | (refine oD hf ?_; clear hf; intro r hr hf; try cases hf) | ((split at hf <;> cases hf); rename_i r hr)
  refine kGG ?_; clear kGG
  refine wpAny_BinOp (monoX (h1 R hs V hd1) fun v s₁ z₁ p r1 => ?_)
  refine monoX (h2 R hs (V.post p) hd2) fun w s₂ z₂ p₂ r2 => ?_
  refine monoX (h R p₂.st (r1.post p₂) r2 hr) fun u s₃ z₃ p₃ r3 => ?_
  exact (kQ _ _ ⟨z₃, (p.trans p₂).trans p₃, r3⟩)
theorem SX.cmp {op : CmpOp} {l r : Expr} {pos : Pos} {g : D → D → Option D} {f1 f2 : EX} (h : Op2 c n (compareOp op) g) (h1 : SB c n sc nm l f1) (h2 : SB c n sc nm r f2)
    (hm : behindInMarks op r = false := by with_unfolding_all rfl) : SX c n sc nm (.Compare l [op] [r] pos) (op2 g f1 f2) := by
  intro A env z s ρ ad σ d σ' R hs V hf
  refine qgen ?_; intro QQ kQ
  refine gen ?_; intro GG kGG
  unfold op2 at hf
  first | (refine omD hf ?_; clear hf; intro d1 σ₁ hd1 hf; try cases hf) | (refine omL hf ?_; clear hf; intro d1 σ₁ hd1 hf; try cases hf) | (refine omB hf ?_; clear hf; intro d1 σ₁ hd1 hf; try cases hf) | (refine omC hf ?_; clear hf; intro d1 σ₁ hd1 hf; try cases hf) | (refine omK hf ?_; clear hf; intro d1 σ₁ hd1 hf; try cases hf) | (refine omI hf ?_; clear hf; intro d1 σ₁ hd1 hf; try cases hf) | (refine omT hf ?_; clear hf; intro d1 σ₁ hd1 hf; try cases hf) | (refine omS hf ?_; clear hf; intro d1 σ₁ hd1 hf; try cases hf) | ((split at hf <;> try cases hf); rename_i d1 σ₁ hd1)
  first | (refine omD hf ?_; clear hf; intro d2 σ₂ hd2 hf; try cases hf) | (refine omL hf ?_; clear hf; intro d2 σ₂ hd2 hf; try cases hf) | (refine omB hf ?_; clear hf; intro d2 σ₂ hd2 hf; try cases hf) | (refine omC hf ?_; clear hf; intro d2 σ₂ hd2 hf; try cases hf) | (refine omK hf ?_; clear hf; intro d2 σ₂ hd2 hf; try cases hf) | (refine omI hf ?_; clear hf; intro d2 σ₂ hd2 hf; try cases hf) | (refine omT hf ?_; clear hf; intro d2 σ₂ hd2 hf; try cases hf) | (refine omS hf ?_; clear hf; intro d2 σ₂ hd2 hf; try cases hf) | ((split at hf <;> try cases hf); rename_i d2 σ₂ hd2)
  first | (refine oD hf ?_; clear hf; intro r hr hf; try cases hf) | ((split at hf <;> cases hf); rename_i r hr)
  refine kGG ?_; clear kGG
  refine wpAny_Compare1 (monoX (h1 R hs V hd1) fun v s₁ z₁ p r1 => ?_) hm
  refine monoX (h2 R hs (V.post p) hd2) fun w s₂ z₂ p₂ r2 => ?_
  refine monoX (h R p₂.st (r1.post p₂) r2 hr) fun u s₃ z₃ p₃ r3 => ?_
  exact (kQ _ _ ⟨z₃, (p.trans p₂).trans p₃, r3⟩)
noncomputable def t2 (g : D → D → Option D) (f1 f2 : EX) : TX := fun ρ σ => match op2 g f1 f2 ρ σ with
  | some (.bool b, σ) => some (b, σ)
  | _ => none
theorem ST.cmp {op : CmpOp} {l r : Expr} {pos : Pos} {g : D → D → Option D} {f1 f2 : EX} (h : Op2 c n (compareOp op) g) (h1 : SB c n sc nm l f1) (h2 : SB c n sc nm r f2)
    (hm : behindInMarks op r = false := by with_unfolding_all rfl) : ST c n sc nm (.Compare l [op] [r] pos) (t2 g f1 f2) := by
  intro A env z s ρ ad σ d σ' R hs V hf
  refine qgen ?_; intro QQ kQ
  unfold t2 op2 at hf
  split at hf <;> try cases hf
  refine gen ?_; intro GG kGG
  rename_i b hf'
  first | (refine omD hf' ?_; clear hf'; intro d1 σ₁ hd1 hf'; try cases hf') | (refine omL hf' ?_; clear hf'; intro d1 σ₁ hd1 hf'; try cases hf') | (refine omB hf' ?_; clear hf'; intro d1 σ₁ hd1 hf'; try cases hf') | (refine omC hf' ?_; clear hf'; intro d1 σ₁ hd1 hf'; try cases hf') | (refine omK hf' ?_; clear hf'; intro d1 σ₁ hd1 hf'; try cases hf') | (refine omI hf' ?_; clear hf'; intro d1 σ₁ hd1 hf'; try cases hf') | (refine omT hf' ?_; clear hf'; intro d1 σ₁ hd1 hf'; try cases hf') | (refine omS hf' ?_; clear hf'; intro d1 σ₁ hd1 hf'; try cases hf') | ((split at hf' <;> try cases hf'); rename_i d1 σ₁ hd1)
  first | (refine omD hf' ?_; clear hf'; intro d2 σ₂ hd2 hf'; try cases hf') | (refine omL hf' ?_; clear hf'; intro d2 σ₂ hd2 hf'; try cases hf') | (refine omB hf' ?_; clear hf'; intro d2 σ₂ hd2 hf'; try cases hf') | (refine omC hf' ?_; clear hf'; intro d2 σ₂ hd2 hf'; try cases hf') | (refine omK hf' ?_; clear hf'; intro d2 σ₂ hd2 hf'; try cases hf') | (refine omI hf' ?_; clear hf'; intro d2 σ₂ hd2 hf'; try cases hf') | (refine omT hf' ?_; clear hf'; intro d2 σ₂ hd2 hf'; try cases hf') | (refine omS hf' ?_; clear hf'; intro d2 σ₂ hd2 hf'; try cases hf') | ((split at hf' <;> try cases hf'); rename_i d2 σ₂ hd2)
  first | (refine oIf hf' ?_; clear hf'; intro hr hf'; cases hf') | ((split at hf' <;> cases hf'); rename_i hr)
  refine kGG ?_; clear kGG
  refine wpAny_isTrue_Compare1 (monoX (h1 R hs V hd1) fun v s₁ z₁ p r1 => ?_) hm
  refine monoX (h2 R hs (V.post p) hd2) fun w s₂ z₂ p₂ r2 => ?_
  refine monoX (h R p₂.st (r1.post p₂) r2 hr) fun u s₃ z₃ p₃ r3 => ?_
  obtain rfl := r3.bool_inv
  exact wpAny_truthy_bool (kQ _ _ ⟨rfl, z₃, (p.trans p₂).trans p₃⟩)
/-! ### tests -/
noncomputable def tnot (t : TX) : TX := fun ρ σ => match t ρ σ with
  | some (b, σ) => some (!b, σ)
  | none => none
noncomputable def tand (t u : TX) : TX := fun ρ σ => match t ρ σ with
  | some (true, σ) => u ρ σ
  | some (false, σ) => some (false, σ)
  | none => none
noncomputable def tor (t u : TX) : TX := fun ρ σ => match t ρ σ with
  | some (true, σ) => some (true, σ)
  | some (false, σ) => u ρ σ
  | none => none
noncomputable def tval (f : EX) : TX := fun ρ σ => match f ρ σ with
  | some (.bool b, σ) => some (b, σ)
  | _ => none
theorem ST.not {x : Expr} {pos : Pos} {t : TX} (h : ST c n sc nm x t) : ST c n sc nm (.UnaryOp .Not x pos) (tnot t) := by
  intro A env z s ρ ad σ b σ' R hs V hf
  refine qgen ?_; intro QQ kQ
  unfold tnot at hf
  first | (refine oD hf ?_; clear hf; intro b ht hf; try cases hf) | ((split at hf <;> cases hf); rename_i b ht)
  refine wpAny_isTrue_Not (wpAny_mono (h R hs V ht) (fun v s' hv => ?_) fun _ _ x => x)
  obtain ⟨rfl, z', p⟩ := hv
  exact (kQ _ _ ⟨rfl, z', p⟩)
theorem ST.and2 {x y : Expr} {pos : Pos} {t u : TX} (h : ST c n sc nm x t) (k : ST c n sc nm y u) : ST c n sc nm (.BoolOp .And [x, y] pos) (tand t u) := by
  intro A env z s ρ ad σ b σ' R hs V hf
  refine qgen ?_; intro QQ kQ
  unfold tand at hf
  split at hf
  · rename_i σ₁ ht
    refine wpAny_isTrue_BoolOp (wpAny_allTrue_And_cons (wpAny_mono (h R hs V ht) (fun v s' hv => ?_) fun _ _ x => x))
    obtain ⟨rfl, z', p⟩ := hv
    rw [if_pos rfl]
    refine wpAny_allTrue_And_cons (wpAny_mono (k R hs (V.post p) hf) (fun v s'' hv => ?_) fun _ _ x => x)
    obtain ⟨rfl, z'', p'⟩ := hv
    split
    · rename_i hb; exact wpAny_allTrue_And_nil (kQ _ _ ⟨hb.symm, z'', p.trans p'⟩)
    · rename_i hb; exact (kQ _ _ ⟨(Bool.eq_false_iff.mpr hb).symm, z'', p.trans p'⟩)
  · rename_i σ₁ ht
    cases hf
    refine wpAny_isTrue_BoolOp (wpAny_allTrue_And_cons (wpAny_mono (h R hs V ht) (fun v s' hv => ?_) fun _ _ x => x))
    obtain ⟨rfl, z', p⟩ := hv
    rw [if_neg (by simp)]
    exact (kQ _ _ ⟨rfl, z', p⟩)
  · cases hf
theorem ST.or2 {x y : Expr} {pos : Pos} {t u : TX} (h : ST c n sc nm x t) (k : ST c n sc nm y u) : ST c n sc nm (.BoolOp .Or [x, y] pos) (tor t u) := by
  intro A env z s ρ ad σ b σ' R hs V hf
  refine qgen ?_; intro QQ kQ
  unfold tor at hf
  split at hf
  · rename_i σ₁ ht
    cases hf
    refine wpAny_isTrue_BoolOp (wpAny_allTrue_Or_cons (wpAny_mono (h R hs V ht) (fun v s' hv => ?_) fun _ _ x => x))
    obtain ⟨rfl, z', p⟩ := hv
    rw [if_pos rfl]
    exact (kQ _ _ ⟨rfl, z', p⟩)
  · rename_i σ₁ ht
    refine wpAny_isTrue_BoolOp (wpAny_allTrue_Or_cons (wpAny_mono (h R hs V ht) (fun v s' hv => ?_) fun _ _ x => x))
    obtain ⟨rfl, z', p⟩ := hv
    rw [if_neg (by simp)]
    refine wpAny_allTrue_Or_cons (wpAny_mono (k R hs (V.post p) hf) (fun v s'' hv => ?_) fun _ _ x => x)
    obtain ⟨rfl, z'', p'⟩ := hv
    split
    · rename_i hb; exact (kQ _ _ ⟨hb.symm, z'', p.trans p'⟩)
    · rename_i hb; exact wpAny_allTrue_Or_nil (kQ _ _ ⟨(Bool.eq_false_iff.mpr hb).symm, z'', p.trans p'⟩)
  · cases hf
theorem ST.and3 {x y w : Expr} {pos : Pos} {t u v : TX} (h : ST c n sc nm x t) (k : ST c n sc nm y u) (l : ST c n sc nm w v) : ST c n sc nm (.BoolOp .And [x, y, w] pos) (tand t (tand u v)) := by
  intro A env z s ρ ad σ b σ' R hs V hf
  refine qgen ?_; intro QQ kQ
  unfold tand at hf
  split at hf
  · rename_i σ₁ ht
    refine wpAny_isTrue_BoolOp (wpAny_allTrue_And_cons (wpAny_mono (h R hs V ht) (fun v s' hv => ?_) fun _ _ x => x))
    obtain ⟨rfl, z', p⟩ := hv
    rw [if_pos rfl]
    split at hf
    · rename_i σ₂ hu
      refine wpAny_allTrue_And_cons (wpAny_mono (k R hs (V.post p) hu) (fun v s'' hv => ?_) fun _ _ x => x)
      obtain ⟨rfl, z'', p'⟩ := hv
      rw [if_pos rfl]
      refine wpAny_allTrue_And_cons (wpAny_mono (l R hs (V.post (p.trans p')) hf) (fun v s3 hv => ?_) fun _ _ x => x)
      obtain ⟨rfl, z3, p3⟩ := hv
      split
      · rename_i hb; exact wpAny_allTrue_And_nil (kQ _ _ ⟨hb.symm, z3, (p.trans p').trans p3⟩)
      · rename_i hb; exact (kQ _ _ ⟨(Bool.eq_false_iff.mpr hb).symm, z3, (p.trans p').trans p3⟩)
    · rename_i σ₂ hu
      cases hf
      refine wpAny_allTrue_And_cons (wpAny_mono (k R hs (V.post p) hu) (fun v s'' hv => ?_) fun _ _ x => x)
      obtain ⟨rfl, z'', p'⟩ := hv
      rw [if_neg (by simp)]
      exact (kQ _ _ ⟨rfl, z'', p.trans p'⟩)
    · cases hf
  · rename_i σ₁ ht
    cases hf
    refine wpAny_isTrue_BoolOp (wpAny_allTrue_And_cons (wpAny_mono (h R hs V ht) (fun v s' hv => ?_) fun _ _ x => x))
    obtain ⟨rfl, z', p⟩ := hv
    rw [if_neg (by simp)]
    exact (kQ _ _ ⟨rfl, z', p⟩)
  · cases hf
theorem ST.val {e : Expr} {f : EX} (h : SX c n sc nm e f) (he : ∀ env whole, isTrue e env whole = (do let v ← whole; standAt e.pos; holding [v] (truthy v)) := by intro _ _; rfl) : ST c n sc nm e (tval f) := by
  intro A env z s ρ ad σ b σ' R hs V hf
  refine qgen ?_; intro QQ kQ
  unfold tval at hf
  first | (refine oD hf ?_; clear hf; intro b hb hf; try cases hf) | ((split at hf <;> cases hf); rename_i b hb)
  refine wpAny_isTrue_value (monoX (h R hs V hb) fun v s' z' p r => ?_) (he env _)
  obtain rfl := r.bool_inv
  exact wpAny_truthy_bool (kQ _ _ ⟨rfl, z', p⟩)
/-! ### values by a test -/
noncomputable def xif (t : TX) (f g : EX) : EX := fun ρ σ => match t ρ σ with
  | some (true, σ) => f ρ σ
  | some (false, σ) => g ρ σ
  | none => none
theorem SX.ifx {t f g : Expr} {pos : Pos} {tt : TX} {ff gg : EX} (h : ST c n sc nm t tt) (h1 : SX c n sc nm f ff) (h2 : SX c n sc nm g gg) : SX c n sc nm (.IfExp t f g pos) (xif tt ff gg) := by
  intro A env z s ρ ad σ d σ' R hs V hf
  refine qgen ?_; intro QQ kQ
  unfold xif at hf
  split at hf
  · rename_i σ₁ ht
    refine wpAny_IfExp (wpAny_mono (h R hs V ht) (fun v s' hv => ?_) fun _ _ x => x)
    obtain ⟨rfl, z', p⟩ := hv
    rw [if_pos rfl]
    exact monoX (h1 R hs (V.post p) hf) fun v s'' z'' p' r => (kQ _ _ ⟨z'', p.trans p', r⟩)
  · rename_i σ₁ ht
    refine wpAny_IfExp (wpAny_mono (h R hs V ht) (fun v s' hv => ?_) fun _ _ x => x)
    obtain ⟨rfl, z', p⟩ := hv
    rw [if_neg (by simp)]
    exact monoX (h2 R hs (V.post p) hf) fun v s'' z'' p' r => (kQ _ _ ⟨z'', p.trans p', r⟩)
  · cases hf
noncomputable def xand (f g : EX) : EX := fun ρ σ => match f ρ σ with
  | some (.bool true, σ) => g ρ σ
  | some (.bool false, σ) => some (.bool false, σ)
  | _ => none
theorem SX.and2 {x y : Expr} {pos : Pos} {f g : EX} (h : SX c n sc nm x f) (k : SX c n sc nm y g) : SX c n sc nm (.BoolOp .And [x, y] pos) (xand f g) := by
  intro A env z s ρ ad σ d σ' R hs V hf
  refine qgen ?_; intro QQ kQ
  unfold xand at hf
  split at hf
  · rename_i σ₁ ht
    refine wpAny_And2 (monoX (h R hs V ht) fun v s' z' p r => ?_)
    obtain rfl := r.bool_inv
    refine wpAny_truthy_bool ?_
    rw [if_pos rfl]
    exact monoX (k R hs (V.post p) hf) fun v s'' z'' p' r => (kQ _ _ ⟨z'', p.trans p', r⟩)
  · rename_i σ₁ ht
    cases hf
    refine wpAny_And2 (monoX (h R hs V ht) fun v s' z' p r => ?_)
    obtain rfl := r.bool_inv
    refine wpAny_truthy_bool ?_
    rw [if_neg (by simp)]
    exact (kQ _ _ ⟨z', p, .bool _⟩)
  · cases hf
noncomputable def op1 (g : D → Option D) (f : EX) : EX := fun ρ σ => match f ρ σ with
  | some (d, σ) => match g d with
    | some r => some (r, σ)
    | none => none
  | none => none
noncomputable def Op1 (c : Cx) (n : Nat) (t : Value → Sem Value) (g : D → Option D) : Prop :=
  ∀ ⦃A z s σ v d r⦄, Room A n → St0 c z s σ → BRep c z s.heap v d → g d = some r →
    wpAny (model c.prog c.w) A (t v) (XQ c z s σ r) no2 s
theorem SX.unop {op : UnaryOp} {x : Expr} {pos : Pos} {g : D → Option D} {f : EX} (h : Op1 c n (unaryOp op) g) (k : SB c n sc nm x f) : SX c n sc nm (.UnaryOp op x pos) (op1 g f) := by
  intro A env z s ρ ad σ d σ' R hs V hf
  refine qgen ?_; intro QQ kQ
  refine gen ?_; intro GG kGG
  unfold op1 at hf
  first | (refine omD hf ?_; clear hf; intro d1 σ₁ hd1 hf; try cases hf) | (refine omL hf ?_; clear hf; intro d1 σ₁ hd1 hf; try cases hf) | (refine omB hf ?_; clear hf; intro d1 σ₁ hd1 hf; try cases hf) | (refine omC hf ?_; clear hf; intro d1 σ₁ hd1 hf; try cases hf) | (refine omK hf ?_; clear hf; intro d1 σ₁ hd1 hf; try cases hf) | (refine omI hf ?_; clear hf; intro d1 σ₁ hd1 hf; try cases hf) | (refine omT hf ?_; clear hf; intro d1 σ₁ hd1 hf; try cases hf) | (refine omS hf ?_; clear hf; intro d1 σ₁ hd1 hf; try cases hf) | ((split at hf <;> try cases hf); rename_i d1 σ₁ hd1)
  first | (refine oD hf ?_; clear hf; intro r hr hf; try cases hf) | ((split at hf <;> cases hf); rename_i r hr)
  refine kGG ?_; clear kGG
  refine wpAny_UnaryOp (monoX (k R hs V hd1) fun v s₁ z₁ p r1 => ?_)
  exact monoX (h R p.st r1 hr) fun u s₂ z₂ p₂ r2 => (kQ _ _ ⟨z₂, p.trans p₂, r2⟩)
end
end Mine
end
section
open PySem PySem.Calls PySem.W PyProof.Rows
namespace Mine
mutual
noncomputable def py : D → PyData
  | .none => .none
  | .bool b => .bool b
  | .int i => .int i
  | .str x => .str x
  | .tup ds => .tuple (pys ds)
  | .list ds => .list (pys ds)
  | .dict _ _ => .none
  | .body _ => .none
  | .src => .none
  | .lam _ => .none
noncomputable def pys : List D → List PyData
  | [] => []
  | d :: ds => py d :: pys ds
end
mutual
noncomputable def okD : Nat → D → Bool
  | _, .none => true
  | _, .bool _ => true
  | _, .int _ => true
  | _, .str _ => true
  | n + 1, .tup ds => okDs n ds
  | n + 1, .list ds => okDs n ds
  | _, _ => false
noncomputable def okDs : Nat → List D → Bool
  | _, [] => true
  | n, d :: ds => okD n d && okDs n ds
end
theorem rep_reads {c : Cx} {z h : Heap} (hs : Sub z h) {v : Value} {d : D} (n : Nat) (r : Rep c z v d) : okD n d = true → ∃ as, Reads h v (py d) as ∧ (py d).canLay0 = true ∧ (py d).depth ≤ n := by
  refine Rep.rec (motive_1 := fun v d _ => ∀ n, okD n d = true → ∃ as, Reads h v (py d) as ∧ (py d).canLay0 = true ∧ (py d).depth ≤ n)
    (motive_2 := fun vs ds _ => ∀ n, okDs n ds = true → ∃ as, ReadsAll h vs (pys ds) as ∧ PyData.canLayAll0 (pys ds) = true ∧ PyData.depthAll (pys ds) ≤ n) ?_ ?_ ?_ ?_ ?_ ?_ ?_ ?_ ?_ ?_ ?_ ?_ r n
  · exact fun _ _ => ⟨_, .none, rfl, Nat.zero_le _⟩
  · exact fun b _ _ => ⟨_, .bool b, rfl, Nat.zero_le _⟩
  · exact fun i t _ _ => ⟨_, .int i t, rfl, Nat.zero_le _⟩
  · exact fun x t hx _ _ => ⟨_, .str x t, by simpa [py, PyData.canLay0] using hx, by simp [py, PyData.depth]⟩
  · intro a vs k ds hm _ ih n hk
    cases n with
    | zero => cases hk
    | succ n =>
      obtain ⟨as, q, q1, q2⟩ := ih n hk
      exact ⟨_, reads_tuple_at (hs _ _ hm) rfl rfl (by simpa using q), by simpa [py, PyData.canLay0] using q1, by simpa [py, PyData.depth] using q2⟩
  · intro a vs k ds hm _ ih n hk
    cases n with
    | zero => cases hk
    | succ n =>
      obtain ⟨as, q, q1, q2⟩ := ih n hk
      exact ⟨_, reads_list_at (hs _ _ hm) rfl rfl (by simpa using q), by simpa [py, PyData.canLay0] using q1, by simpa [py, PyData.depth] using q2⟩
  · intro a ks kvs vs ds _ _ _ _ _ _ n hk; cases n <;> cases hk
  · intro x dx od vs ds _ _ _ _ _ n hk; cases n <;> cases hk
  · intro a _ n hk; cases n <;> cases hk
  · intro f vb d _ _ _ n hk; cases n <;> cases hk
  · exact fun n _ => ⟨_, .nil, rfl, Nat.zero_le _⟩
  · intro v vs d ds _ _ ih1 ih2 n hk
    refine gen ?_; intro GG kGG
    simp only [okDs, Bool.and_eq_true] at hk
    obtain ⟨as, q, q1, q2⟩ := ih1 n hk.1
    obtain ⟨bs, p, p1, p2⟩ := ih2 n hk.2
    refine kGG ?_; clear kGG
    exact ⟨_, .cons q p, by simp [pys, PyData.canLayAll0, q1, p1], by simp only [pys, PyData.depthAll]; lia⟩
theorem reps_reads {c : Cx} {z h : Heap} (hs : Sub z h) {vs : List Value} {ds : List D} (n : Nat) (r : RepL c z vs ds) (hk : okDs n ds = true) : ∃ as, ReadsAll h vs (pys ds) as ∧ PyData.canLayAll0 (pys ds) = true ∧ PyData.depthAll (pys ds) ≤ n := by
  induction ds generalizing vs with
  | nil => obtain rfl := r.nil_inv; exact ⟨_, .nil, rfl, Nat.zero_le _⟩
  | cons d ds ih =>
    refine gen ?_; intro GG kGG
    obtain ⟨v, ws, rfl, r1, r2⟩ := r.cons_inv
    simp only [okDs, Bool.and_eq_true] at hk
    obtain ⟨as, q, q1, q2⟩ := rep_reads hs n r1 hk.1
    obtain ⟨bs, p, p1, p2⟩ := ih r2 hk.2
    refine kGG ?_; clear kGG
    exact ⟨_, .cons q p, by simp [pys, PyData.canLayAll0, q1, p1], by simp only [pys, PyData.depthAll]; lia⟩
section
variable {c : Cx} {z h : Heap} {v : Value}
theorem BRep.list {ds : List D} (r : BRep c z h v (.list ds)) (hs : Sub z h) : ∃ a vs n, v = .ref a ∧ h.get? a = some { cls := .type "list", data := .seq vs.toArray n } ∧ RepL c z vs ds := by
  rcases r with r | ⟨a, o, e, _, _, _, h1, vs, n, h2, h3⟩
  · obtain ⟨a, vs, n, rfl, h1, h2⟩ := r.list_inv
    exact ⟨a, vs, n, rfl, hs _ _ h1, h2⟩
  · subst h2; exact ⟨a, vs, n, e, h1, h3⟩
theorem BRep.tup {ds : List D} (r : BRep c z h v (.tup ds)) (hs : Sub z h) : ∃ a vs n, v = .ref a ∧ h.get? a = some { cls := .type "tuple", data := .seq vs.toArray n } ∧ RepL c z vs ds ∧ Rep c z v (.tup ds) := by
  rcases r with r | ⟨a, o, e, _, _, _, h1, h2⟩
  · obtain ⟨a, vs, n, rfl, h1, h2⟩ := r.tup_inv
    exact ⟨a, vs, n, rfl, hs _ _ h1, h2, r⟩
  · exact h2.elim
theorem BRep.dict {ks : List Int} {ds : List D} (r : BRep c z h v (.dict ks ds)) (hs : Sub z h) :
    ∃ a kvs, v = .ref a ∧ h.DictOf c.ik a kvs ∧ (a == sysModules) = false ∧ ks = kvs.map (·.1) ∧ RepL c z (kvs.map (·.2)) ds := by
  rcases r with r | ⟨a, o, e, _, _, h0, h1, kvs, h2, h3, h4⟩
  · obtain ⟨a, kvs, rfl, h1, h2, h3, h5⟩ := r.dict_inv
    exact ⟨a, kvs, rfl, DictOf_keeps h1 hs, h2, h3, h5⟩
  · exact ⟨a, kvs, e, Heap.dictOf_iff.mpr ⟨o, h1, h2⟩, h0, h3, h4⟩
noncomputable def plainB : D → Bool
  | .list _ => false
  | .dict _ _ => false
  | _ => true
theorem ORep.mut {o : Obj} {d : D} (h : ORep c z o d) (hd : plainB d = true) : False := by
  cases d <;> first | exact h | cases hd
theorem BRep.plain {d : D} (r : BRep c z h v d) (hd : plainB d = true) : Rep c z v d := by
  rcases r with r | ⟨a, o, e, _, _, _, h1, h2⟩
  · exact r
  · exact (h2.mut hd).elim
theorem BRep.int {i : Int} (r : BRep c z h v (.int i)) : ∃ t, v = .int i t := by
  exact (r.plain rfl).int_inv
theorem BRep.bool {b : Bool} (r : BRep c z h v (.bool b)) : v = .bool b := by
  exact (r.plain rfl).bool_inv
theorem BRep.none (r : BRep c z h v .none) : v = .none := by
  exact (r.plain rfl).none_inv
theorem BRep.reads {d : D} (n : Nat) (r : BRep c z h v d) (hs : Sub z h) (hk : okD n d = true) : ∃ as, Reads h v (py d) as ∧ (py d).canLay0 = true ∧ (py d).depth ≤ n := by
  rcases r with r | ⟨a, o, e, _, _, _, h1, h2⟩
  · exact rep_reads hs n r hk
  · cases d <;> try exact h2.elim
    · obtain ⟨vs, k, rfl, h3⟩ := h2
      cases n with
      | zero => cases hk
      | succ n =>
        refine gen ?_; intro GG kGG
        obtain ⟨as, q, q1, q2⟩ := reps_reads hs n h3 hk
        subst e
        refine kGG ?_; clear kGG
        exact ⟨_, reads_list_at h1 rfl rfl (by simpa using q), by simpa [py, PyData.canLay0] using q1, by simpa [py, PyData.depth] using q2⟩
    · cases n <;> cases hk
end
/-! ### arithmetic -/
noncomputable def small (a : Int) : Bool := decide (a.natAbs < 2 ^ 64)
noncomputable def addD : D → D → Option D
  | .int a, .int b => some (.int (a + b))
  | .list a, .list b => if a.length + b.length ≤ 1000 then some (.list (a ++ b)) else none
  | .tup a, .tup b => if a.length + b.length ≤ 1000 then some (.tup (a ++ b)) else none
  | _, _ => none
noncomputable def subD : D → D → Option D
  | .int a, .int b => some (.int (a - b))
  | _, _ => none
noncomputable def mulD : D → D → Option D
  | .int a, .int b => if small a || small b then some (.int (a * b)) else none
  | .list a, .int k => if a.length ≤ 10 ∧ 0 ≤ k ∧ k ≤ 10 then some (.list (List.replicate k.toNat a).flatten) else none
  | _, _ => none
noncomputable def fdivD : D → D → Option D
  | .int a, .int b => if b ≠ 0 ∧ small b then some (.int (a.fdiv b)) else none
  | _, _ => none
noncomputable def modD : D → D → Option D
  | .int a, .int b => if b ≠ 0 ∧ small b then some (.int (a.fmod b)) else none
  | _, _ => none
noncomputable def powD : D → D → Option D
  | .int a, .int b => if small a ∧ 0 ≤ b ∧ b ≤ 1000 then some (.int (a ^ b.toNat)) else none
  | _, _ => none
noncomputable def eqD (d e : D) : Option D := if okD 16 d && okD 16 e then some (.bool (PyData.eqv (py d) (py e))) else none
noncomputable def neD (d e : D) : Option D := if okD 16 d && okD 16 e then some (.bool (!PyData.eqv (py d) (py e))) else none
noncomputable def ltI : D → D → Option D
  | .int a, .int b => some (.bool (decide (a < b)))
  | _, _ => none
noncomputable def gtI : D → D → Option D
  | .int a, .int b => some (.bool (decide (a > b)))
  | _, _ => none
noncomputable def geI : D → D → Option D
  | .int a, .int b => some (.bool (decide (a ≥ b)))
  | _, _ => none
noncomputable def isNone : D → Bool
  | .none => true
  | _ => false
noncomputable def isD : D → D → Option D
  | d, .none => some (.bool (isNone d))
  | _, _ => none
noncomputable def isntD : D → D → Option D
  | d, .none => some (.bool (!isNone d))
  | _, _ => none
noncomputable def inD (d e : D) : Option D := match e with
  | .dict ks _ => match d with
    | .int k => some (.bool (ks.contains k))
    | _ => none
  | .list es => if okD 16 d && okDs 16 es then some (.bool ((pys es).any fun y => PyData.eqv y (py d))) else none
  | .tup es => if okD 16 d && okDs 16 es then some (.bool ((pys es).any fun y => PyData.eqv y (py d))) else none
  | _ => none
noncomputable def ninD (d e : D) : Option D := match inD d e with
  | some (.bool b) => some (.bool (!b))
  | _ => none
section
variable {c : Cx} {n : Nat}
theorem intBits_small {a : Int} (h : small a = true) : Builtin.Int.intBits a ≤ 64 := by
  have h' : a.natAbs < 2 ^ 64 := of_decide_eq_true h
  unfold Builtin.Int.intBits
  split
  · lia
  · rename_i hne
    have : a.natAbs.log2 < 64 := by
      rw [Nat.log2_lt (by intro q; apply hne; simp [Int.natAbs_eq_zero.mp q])]
      exact h'
    lia
theorem noPylong_s {x y : Int} (h : small y = true) : Builtin.divisionGoesByPylong x y = false := by
  have h' : y.natAbs < 2 ^ 64 := of_decide_eq_true h
  refine PyProof.noPylong_of_log2 ?_
  by_cases h0 : y.natAbs = 0
  · rw [h0]; decide +kernel
  · have : y.natAbs.log2 < 64 := (Nat.log2_lt h0).mpr h'
    lia
theorem op_add : Op2 c n (binaryOp .Add) addD := by
  intro A z s σ v w d e r R S hv hw hg
  cases d <;> try exact nos hg
  case int =>
    cases e <;> try exact nos hg
    refine gen ?_; intro GG kGG
    cases hg
    obtain ⟨t, rfl⟩ := hv.int
    obtain ⟨u, rfl⟩ := hw.int
    refine kGG ?_; clear kGG
    exact PyProof.Rows.add_int ⟨z, .toks S _, .int _ _⟩
  case list =>
    cases e <;> try exact nos hg
    refine gen ?_; intro GG kGG
    refine oIf hg ?_; clear hg; intro hl hg; cases hg
    obtain ⟨a, vs, k, rfl, h1, r1⟩ := hv.list S.zh
    obtain ⟨b, ws, l, rfl, h2, r2⟩ := hw.list S.zh
    obtain ⟨z₂, p₂, e⟩ := EPost.alloc S { cls := .type "list", data := .seq (vs ++ ws).toArray } rfl s.toks
    refine kGG ?_; clear kGG
    refine P.add_list h1 h2 ⟨z₂, ?_, .list e ((r1.append r2).mono p₂.zz)⟩ (small_fits (by simpa [r1.length, r2.length] using hl))
    simpa using p₂
  case tup =>
    cases e <;> try exact nos hg
    refine gen ?_; intro GG kGG
    refine oIf hg ?_; clear hg; intro hl hg; cases hg
    obtain ⟨a, vs, k, rfl, h1, r1, r1'⟩ := hv.tup S.zh
    obtain ⟨b, ws, l, rfl, h2, r2, r2'⟩ := hw.tup S.zh
    refine kGG ?_; clear kGG
    by_cases hv0 : vs = []
    · subst hv0
      cases r1
      exact concat_meets ⟨_, h1, rfl⟩ ⟨_, h2, rfl⟩ noFill_tuple_add seq_tuple_add F.slot_tuple_add F.entry_tuple_add (F.args_tuple_add_2 _ _) (AutoSeq1.tuple___add___tuple_tuple_0 a _ k b _ l rfl)
        ⟨h1, h2, z, by simpa using EPost.refl S, r2'⟩
    · by_cases hw0 : ws = []
      · subst hw0
        cases r2
        exact concat_meets ⟨_, h1, rfl⟩ ⟨_, h2, rfl⟩ noFill_tuple_add seq_tuple_add F.slot_tuple_add F.entry_tuple_add (F.args_tuple_add_2 _ _) (AutoSeq1.tuple___add___tuple_tuple_1 a _ k b _ l (by simpa using hv0) rfl)
          ⟨h1, h2, z, by simpa using EPost.refl S, by simpa using r1'⟩
      · obtain ⟨z₂, p₂, e⟩ := EPost.alloc S { cls := .type "tuple", data := .seq (vs ++ ws).toArray } rfl s.toks
        refine P.add_tuple h1 h2 (by simpa using hv0) (by simpa using hw0) ⟨z₂, ?_, .tup e ((r1.append r2).mono p₂.zz)⟩ (small_fits (by simpa [r1.length, r2.length] using hl))
        simpa using p₂
theorem op_sub : Op2 c n (binaryOp .Sub) subD := by
  intro A z s σ v w d e r R S hv hw hg
  refine qgen ?_; intro QQ kQ
  unfold subD at hg
  split at hg <;> cases hg
  refine gen ?_; intro GG kGG
  obtain ⟨t, rfl⟩ := hv.int
  obtain ⟨u, rfl⟩ := hw.int
  refine kGG ?_; clear kGG
  exact PyProof.Rows.sub_int (kQ _ _ ⟨z, .toks S _, .int _ _⟩)
theorem op_fdiv : Op2 c n (binaryOp .FloorDiv) fdivD := by
  intro A z s σ v w d e r R S hv hw hg
  refine qgen ?_; intro QQ kQ
  unfold fdivD at hg
  split at hg <;> try cases hg
  refine gen ?_; intro GG kGG
  first | (refine oIf hg ?_; clear hg; intro hb hg; cases hg) | ((split at hg <;> cases hg); rename_i hb)
  obtain ⟨t, rfl⟩ := hv.int
  obtain ⟨u, rfl⟩ := hw.int
  refine kGG ?_; clear kGG
  exact PyProof.Rows.floordiv_int hb.1 (hp := .inl (noPylong_s hb.2)) (kQ _ _ ⟨z, .toks S _, .int _ _⟩)
theorem op_mod : Op2 c n (binaryOp .Mod) modD := by
  intro A z s σ v w d e r R S hv hw hg
  refine qgen ?_; intro QQ kQ
  unfold modD at hg
  split at hg <;> try cases hg
  refine gen ?_; intro GG kGG
  first | (refine oIf hg ?_; clear hg; intro hb hg; cases hg) | ((split at hg <;> cases hg); rename_i hb)
  obtain ⟨t, rfl⟩ := hv.int
  obtain ⟨u, rfl⟩ := hw.int
  refine kGG ?_; clear kGG
  exact PyProof.Rows.mod_int hb.1 (kQ _ _ ⟨z, .toks S _, .int _ _⟩)
theorem op_pow : Op2 c n (binaryOp .Pow) powD := by
  intro A z s σ v w d e r R S hv hw hg
  refine qgen ?_; intro QQ kQ
  unfold powD at hg
  split at hg <;> try cases hg
  refine gen ?_; intro GG kGG
  first | (refine oIf hg ?_; clear hg; intro hb hg; cases hg) | ((split at hg <;> cases hg); rename_i hb)
  obtain ⟨t, rfl⟩ := hv.int
  obtain ⟨u, rfl⟩ := hw.int
  refine kGG ?_; clear kGG
  exact PyProof.Rows.pow_int_small hb.2.1 (by lia) (of_decide_eq_true hb.1) (kQ _ _ ⟨z, .toks S _, .int _ _⟩)
theorem foldl_app (l : List (Array Value)) : ∀ a : Array Value, l.foldl (fun x y => x ++ y) a = a ++ (l.map (·.toList)).flatten.toArray := by
  induction l with
  | nil => intro a; simp
  | cons b l ih => intro a; rw [List.foldl_cons, ih]; apply Array.toList_inj.mp; simp
theorem RepL.rep {z : Heap} {vs : List Value} {ds : List D} (h : RepL c z vs ds) (k : Nat) : RepL c z (List.replicate k vs).flatten (List.replicate k ds).flatten := by
  induction k with
  | zero => exact .nil
  | succ k ih => rw [List.replicate_succ, List.replicate_succ, List.flatten_cons, List.flatten_cons]; exact h.append ih
theorem op_mul : Op2 c n (binaryOp .Mult) mulD := by
  intro A z s σ v w d e r R S hv hw hg
  refine qgen ?_; intro QQ kQ
  cases d <;> try exact nos hg
  · cases e <;> try exact nos hg
    refine gen ?_; intro GG kGG
    refine oIf hg ?_; clear hg; intro hs hg; cases hg
    obtain ⟨t, rfl⟩ := hv.int
    obtain ⟨u, rfl⟩ := hw.int
    refine kGG ?_; clear kGG
    refine PyProof.Rows.mul_int (kQ _ _ ⟨z, .toks S _, .int _ _⟩) ?_
    rcases Bool.or_eq_true_iff.mp hs with h | h
    · exact IntMulOk.of_left (intBits_small h)
    · exact IntMulOk.of_right (intBits_small h)
  · cases e <;> try exact nos hg
    refine gen ?_; intro GG kGG
    rename_i l x
    refine oIf hg ?_; clear hg; intro hs hg; cases hg
    obtain ⟨a, vs, k, rfl, h1, r1⟩ := hv.list S.zh
    obtain ⟨u, rfl⟩ := hw.int
    have hlen := r1.length
    have hxn : x.toNat ≤ 10 := by lia
    have hprod : vs.length * x.toNat ≤ 10 * 10 := Nat.mul_le_mul (by lia) hxn
    have hits : List.foldl (fun x1 x2 => x1 ++ x2) #[] (List.replicate (if vs.toArray.isEmpty = true then 0 else x.toNat) vs.toArray) = (List.replicate x.toNat vs).flatten.toArray := by
      rw [foldl_app]
      by_cases hv0 : vs = []
      · subst hv0; apply Array.toList_inj.mp; simp
      · have : vs.toArray.isEmpty = false := by simpa using hv0
        rw [this]; apply Array.toList_inj.mp; simp
    obtain ⟨z₂, p₂, e⟩ := EPost.alloc S { cls := .type "list", data := .seq (List.replicate x.toNat vs).flatten.toArray } rfl s.toks
    refine kGG ?_; clear kGG
    refine wpAny_binaryOp_repeat_ref (T := "list") (U := "int") (by decide) ⟨_, h1, rfl⟩ (fun s' => typeIs_int s' x u) noFill_list_mul F.fills_int_mul F.slot_int_rmul repeat_list F.slot_int_index.lookup
      (call_meets F.slot_int_rmul (typeIs_int s x u) F.entry_int_rmul (F.args_int_rmul_2 _ _) (int___rmul___int_list x u a vs.toArray k)
        ⟨h1, rfl, ⟨_, h1, rfl⟩, call_meets F.slot_list_mul ⟨_, h1, rfl⟩ F.entry_list_mul (F.args_list_mul_2 _ _)
          (AutoListH.list___mul___list_int_3 a vs.toArray k x u (by simp [Builtin.List.listFitsIndex]; lia) (by rw [List.size_toArray]; lia) (by simp [Builtin.List.listTooLong, sizeLine]; lia))
          ⟨h1, ?_⟩⟩)
    rw [hits]
    exact (kQ _ _ ⟨z₂, p₂, .list e ((r1.rep _).mono p₂.zz)⟩)
theorem op_eq : Op2 c n (compareOp .Eq) eqD := by
  intro A z s σ v w d e r R S hv hw hg
  refine qgen ?_; intro QQ kQ
  refine gen ?_; intro GG kGG
  unfold eqD at hg
  first | (refine oIf hg ?_; clear hg; intro hk hg; cases hg) | ((split at hg <;> cases hg); rename_i hk)
  obtain ⟨k1, k2⟩ := Bool.and_eq_true_iff.mp hk
  obtain ⟨as, r1, l1, d1⟩ := hv.reads 16 S.zh k1
  obtain ⟨bs, r2, l2, d2⟩ := hw.reads 16 S.zh k2
  refine kGG ?_; clear kGG
  refine eq_dataH r1 r2 ?_ ?_ R.units64 (kQ _ _ ⟨z, .refl S, .bool _⟩)
  · unfold SeqAt.shaped; rw [l1, Bool.true_and]; exact decide_eq_true (by lia)
  · unfold SeqAt.shaped; rw [l2, Bool.true_and]; exact decide_eq_true (by lia)
theorem op_ne : Op2 c n (compareOp .NotEq) neD := by
  intro A z s σ v w d e r R S hv hw hg
  refine qgen ?_; intro QQ kQ
  refine gen ?_; intro GG kGG
  unfold neD at hg
  first | (refine oIf hg ?_; clear hg; intro hk hg; cases hg) | ((split at hg <;> cases hg); rename_i hk)
  obtain ⟨k1, k2⟩ := Bool.and_eq_true_iff.mp hk
  obtain ⟨as, r1, l1, d1⟩ := hv.reads 16 S.zh k1
  obtain ⟨bs, r2, l2, d2⟩ := hw.reads 16 S.zh k2
  refine kGG ?_; clear kGG
  refine ne_dataH r1 r2 ?_ ?_ R.units64 (kQ _ _ ⟨z, .refl S, .bool _⟩)
  · unfold SeqAt.shaped; rw [l1, Bool.true_and]; exact decide_eq_true (by lia)
  · unfold SeqAt.shaped; rw [l2, Bool.true_and]; exact decide_eq_true (by lia)
theorem op_ltI : Op2 c n (compareOp .Lt) ltI := by
  intro A z s σ v w d e r R S hv hw hg
  refine qgen ?_; intro QQ kQ
  unfold ltI at hg
  split at hg <;> cases hg
  refine gen ?_; intro GG kGG
  obtain ⟨t, rfl⟩ := hv.int
  obtain ⟨u, rfl⟩ := hw.int
  refine kGG ?_; clear kGG
  exact PyProof.Rows.lt_int (kQ _ _ ⟨z, .refl S, .bool _⟩)
theorem op_gtI : Op2 c n (compareOp .Gt) gtI := by
  intro A z s σ v w d e r R S hv hw hg
  refine qgen ?_; intro QQ kQ
  unfold gtI at hg
  split at hg <;> cases hg
  refine gen ?_; intro GG kGG
  obtain ⟨t, rfl⟩ := hv.int
  obtain ⟨u, rfl⟩ := hw.int
  refine kGG ?_; clear kGG
  exact PyProof.Rows.gt_int (kQ _ _ ⟨z, .refl S, .bool _⟩)
theorem op_geI : Op2 c n (compareOp .GtE) geI := by
  intro A z s σ v w d e r R S hv hw hg
  refine qgen ?_; intro QQ kQ
  unfold geI at hg
  split at hg <;> cases hg
  refine gen ?_; intro GG kGG
  obtain ⟨t, rfl⟩ := hv.int
  obtain ⟨u, rfl⟩ := hw.int
  refine kGG ?_; clear kGG
  exact PyProof.Rows.ge_int (kQ _ _ ⟨z, .refl S, .bool _⟩)
theorem isNone_of {z h : Heap} {v : Value} {d : D} (r : BRep c z h v d) : (v == .none) = isNone d := by
  rcases r with r | ⟨a, o, rfl, _, _, _, _, h2⟩
  · cases r <;> rfl
  · cases d <;> first | exact h2.elim | rfl
theorem op_is : Op2 c n (compareOp .Is) isD := by
  intro A z s σ v w d e r R S hv hw hg
  refine qgen ?_; intro QQ kQ
  unfold isD at hg
  split at hg <;> cases hg
  obtain rfl := hw.none
  exact is_none (by rw [isNone_of hv]; exact (kQ _ _ ⟨z, .refl S, .bool _⟩))
theorem op_isnt : Op2 c n (compareOp .IsNot) isntD := by
  intro A z s σ v w d e r R S hv hw hg
  refine qgen ?_; intro QQ kQ
  unfold isntD at hg
  split at hg <;> cases hg
  obtain rfl := hw.none
  exact isNot_none (by rw [isNone_of hv]; exact (kQ _ _ ⟨z, .refl S, .bool _⟩))
theorem valueAt_isSome (kvs : List (Int × Value)) (k : Int) : (valueAt kvs k).isSome = (kvs.map (·.1)).contains k := by
  induction kvs with
  | nil => rfl
  | cons p r ih =>
    unfold valueAt at ih ⊢
    rw [List.find?_cons]
    by_cases h : p.1 = k
    · simp [h]
    · have h' : ¬ k = p.1 := fun q => h q.symm
      simp only [h, decide_false]
      rw [ih]
      simp [h']
theorem isInt_self (k : Int) (t : Tok) : c.ik.is k (.int k t) = true := by show Value.isInt k (.int k t) = true; simp [Value.isInt]
theorem op_in : Op2 c n (compareOp .In) inD := by
  intro A z s σ v w d e r R S hv hw hg
  refine qgen ?_; intro QQ kQ
  cases e <;> try exact nos hg
  case dict ks ds =>
    cases d <;> try exact nos hg
    refine gen ?_; intro GG kGG
    rename_i k
    cases hg
    obtain ⟨t, rfl⟩ := hv.int
    obtain ⟨a, kvs, rfl, h1, h2, rfl, h4⟩ := hw.dict S.zh
    refine kGG ?_; clear kGG
    refine wpAny_in_of (knd := c.ik) (k := k) (f := valueAt kvs) (isInt_self _ _) h2 h1.mapOf ?_
    rw [valueAt_isSome]
    exact (kQ _ _ ⟨z, .toks S _, .bool _⟩)
  case list es =>
    refine gen ?_; intro GG kGG
    refine oIf hg ?_; clear hg; intro hk hg; cases hg
    obtain ⟨k1, k2⟩ := Bool.and_eq_true_iff.mp hk
    obtain ⟨as, r1, l1, d1⟩ := hv.reads 16 S.zh k1
    obtain ⟨a, vs, k, rfl, h1, r2⟩ := hw.list S.zh
    obtain ⟨bs, q, q1, q2⟩ := reps_reads S.zh 16 r2 k2
    refine kGG ?_; clear kGG
    refine SeqAt.in_list_reads (reads_list_at h1 rfl rfl (by simpa using q)) r1 q1 l1 ?_ (kQ _ _ ⟨z, .refl S, .bool _⟩)
    have := R.units64
    lia
  case tup es =>
    refine gen ?_; intro GG kGG
    refine oIf hg ?_; clear hg; intro hk hg; cases hg
    obtain ⟨k1, k2⟩ := Bool.and_eq_true_iff.mp hk
    obtain ⟨as, r1, l1, d1⟩ := hv.reads 16 S.zh k1
    obtain ⟨a, vs, k, rfl, h1, r2, _⟩ := hw.tup S.zh
    obtain ⟨bs, q, q1, q2⟩ := reps_reads S.zh 16 r2 k2
    refine kGG ?_; clear kGG
    refine SeqAt.in_tuple_reads (reads_tuple_at h1 rfl rfl (by simpa using q)) r1 q1 l1 ?_ (kQ _ _ ⟨z, .refl S, .bool _⟩)
    have := R.units64
    lia
theorem ninD_inv {d e r : D} (h : ninD d e = some r) : ∃ b, inD d e = some (.bool b) ∧ r = .bool (!b) := by
  unfold ninD at h
  cases h' : inD d e with
  | none => rw [h'] at h; exact nos h
  | some x =>
    rw [h'] at h
    cases x <;> try exact nos h
    cases h; exact ⟨_, rfl, rfl⟩
theorem op_nin : Op2 c n (compareOp .NotIn) ninD := by
  intro A z s σ v w d e r R S hv hw hg
  refine qgen ?_; intro QQ kQ
  have h0 := ninD_inv hg
  clear hg
  obtain ⟨b, hg, rfl⟩ := h0
  cases e <;> try exact nos hg
  case dict ks ds =>
    cases d <;> try exact nos hg
    refine gen ?_; intro GG kGG
    rename_i k
    cases hg
    obtain ⟨t, rfl⟩ := hv.int
    obtain ⟨a, kvs, rfl, h1, h2, rfl, h4⟩ := hw.dict S.zh
    refine kGG ?_; clear kGG
    refine wpAny_notIn_of (knd := c.ik) (k := k) (f := valueAt kvs) (isInt_self _ _) h2 h1.mapOf ?_
    rw [valueAt_isSome]
    exact (kQ _ _ ⟨z, .toks S _, .bool _⟩)
  case list es =>
    refine gen ?_; intro GG kGG
    refine oIf hg ?_; clear hg; intro hk hg; cases hg
    obtain ⟨k1, k2⟩ := Bool.and_eq_true_iff.mp hk
    obtain ⟨as, r1, l1, d1⟩ := hv.reads 16 S.zh k1
    obtain ⟨a, vs, k, rfl, h1, r2⟩ := hw.list S.zh
    obtain ⟨bs, q, q1, q2⟩ := reps_reads S.zh 16 r2 k2
    refine kGG ?_; clear kGG
    refine SeqAt.notIn_list_reads (reads_list_at h1 rfl rfl (by simpa using q)) r1 q1 l1 ?_ (kQ _ _ ⟨z, .refl S, .bool _⟩)
    have := R.units64
    lia
  case tup es =>
    refine gen ?_; intro GG kGG
    refine oIf hg ?_; clear hg; intro hk hg; cases hg
    obtain ⟨k1, k2⟩ := Bool.and_eq_true_iff.mp hk
    obtain ⟨as, r1, l1, d1⟩ := hv.reads 16 S.zh k1
    obtain ⟨a, vs, k, rfl, h1, r2, _⟩ := hw.tup S.zh
    obtain ⟨bs, q, q1, q2⟩ := reps_reads S.zh 16 r2 k2
    refine kGG ?_; clear kGG
    refine SeqAt.notIn_tuple_reads (reads_tuple_at h1 rfl rfl (by simpa using q)) r1 q1 l1 ?_ (kQ _ _ ⟨z, .refl S, .bool _⟩)
    have := R.units64
    lia
noncomputable def negD : D → Option D
  | .int a => some (.int (-a))
  | _ => none
theorem op_neg : Op1 c n (unaryOp .USub) negD := by
  intro A z s σ v d r R S hv hg
  refine qgen ?_; intro QQ kQ
  unfold negD at hg
  split at hg <;> cases hg
  obtain ⟨t, rfl⟩ := hv.int
  exact PyProof.Rows.neg_int (kQ _ _ ⟨z, .toks S _, .int _ _⟩)
end
end Mine
end
section
open PySem PySem.Calls PySem.W PyProof.Rows
namespace Mine
/-! ### places -/
noncomputable def idx (ds : List D) (i : Int) : Option D :=
  if 0 ≤ i then (if i ≤ 1000 then ds[i.toNat]? else none)
  else if 0 ≤ i + ds.length ∧ -1000 ≤ i then ds[(i + ds.length).toNat]? else none
noncomputable def look (ks : List Int) (ds : List D) (k : Int) : Option D := (ks.zip ds).lookup k
noncomputable def subS (σ : Src) : D → D → Option D
  | .src, .int i => if i = 0 then some (.int σ.1) else if i = 1 then some (.int σ.2) else none
  | .list ds, .int i => idx ds i
  | .tup ds, .int i => idx ds i
  | .dict ks ds, .int k => look ks ds k
  | _, _ => none
noncomputable def xsub (f1 f2 : EX) : EX := fun ρ σ => match f1 ρ σ with
  | some (d, σ) => match f2 ρ σ with
    | some (e, σ) => match subS σ d e with
      | some r => some (r, σ)
      | none => none
    | none => none
  | none => none
section
variable {c : Cx} {n : Nat} {sc : Scope} {nm : List Str}
theorem look_valueAt {z : Heap} : ∀ {kvs : List (Int × Value)} {ds : List D} {k : Int} {d : D}, RepL c z (kvs.map (·.2)) ds → look (kvs.map (·.1)) ds k = some d → ∃ v, valueAt kvs k = some v ∧ Rep c z v d
  | [], ds, k, d, r, h => by simp [look] at h
  | (a, v) :: kvs, ds, k, d, r, h => by
    cases r with
    | cons r1 r2 =>
      rename_i d1 ds1
      unfold look at h
      rw [List.map_cons, List.zip_cons_cons, List.lookup_cons] at h
      unfold valueAt
      rw [List.find?_cons]
      by_cases hk : a = k
      · subst hk
        simp only [beq_self_eq_true] at h
        cases h
        simp only [decide_true]
        exact ⟨_, rfl, r1⟩
      · have h2 : (k == a) = false := beq_eq_false_iff_ne.mpr fun q => hk q.symm
        rw [h2] at h
        simp only [hk, decide_false]
        exact look_valueAt r2 h
theorem seqIndex_pos {i : Int} {len : Nat} (h0 : 0 ≤ i) (h1 : i.toNat < len) : seqIndex? i len = some i.toNat := by
  unfold seqIndex?
  have : ¬ i < 0 := by lia
  have h3 : i < (len : Int) := by lia
  simp [this, h0, h3]
theorem seqIndex_neg {i : Int} {len : Nat} (h0 : i < 0) (h1 : 0 ≤ i + len) : seqIndex? i len = some (i + len).toNat := by
  unfold seqIndex?
  have h3 : i + len < (len : Int) := by lia
  simp [h0, h1, h3]
theorem sub_core {A : Around} {z : Heap} {s : Shared} {σ : Src} {v w : Value} {d e r : D} {value slice : Expr} (S : St0 c z s σ) (hv : BRep c z s.heap v d) (hw : BRep c z s.heap w e) (hg : subS σ d e = some r)
    (hs : ∀ o i, subscripted slice false o i = operate [o, i] (getItem o i)) :
    wpAny (model c.prog c.w) A (subscriptTail value slice v w) (fun u s' => ∃ z', EPost c z s z' s' σ ∧ Rep c z' u r) no2 s := by
  cases d <;> try exact nos hg
  case src =>
    cases e <;> try exact nos hg
    refine gen ?_; intro GG kGG
    rename_i i
    replace hg : (if i = 0 then some (D.int σ.1) else if i = 1 then some (D.int σ.2) else none) = some r := hg
    have hr : ∃ j, (j = 0 ∨ j = 1) ∧ i = (j : Nat) ∧ r = .int (if j = 0 then σ.1 else σ.2) := by
      split at hg
      · cases hg; exact ⟨0, .inl rfl, by assumption, rfl⟩
      · split at hg <;> cases hg
        exact ⟨1, .inr rfl, by assumption, rfl⟩
    obtain ⟨j, hj, rfl, rfl⟩ := hr
    obtain ⟨u, rfl⟩ := hw.int
    have r1 := hv.plain rfl
    obtain ⟨a, rfl, hq⟩ := r1.src_inv
    obtain ⟨t1, t2, hl⟩ := (S.src _ hq).at_
    refine kGG ?_; clear kGG
    rcases hj with rfl | rfl
    · exact tail_any hl.typeIs slot_list_getitem.lookup (wpAny_getItem_list hl (by lia) (by lia) (x := .int σ.1 t1) rfl ⟨z, .refl S, .int _ _⟩) (hs _ _)
    · exact tail_any hl.typeIs slot_list_getitem.lookup (wpAny_getItem_list hl (by lia) (by lia) (x := .int σ.2 t2) rfl ⟨z, .refl S, .int _ _⟩) (hs _ _)
  case list =>
    cases e <;> try exact nos hg
    refine gen ?_; intro GG kGG
    rename_i ds i
    obtain ⟨u, rfl⟩ := hw.int
    obtain ⟨a, vs, k, rfl, h1, r1⟩ := hv.list S.zh
    have hl : s.heap.IsList a vs.toArray := ⟨_, h1, rfl, k, rfl⟩
    have hlen := r1.length
    replace hg : idx ds i = some r := hg
    unfold idx at hg
    refine kGG ?_; clear kGG
    split at hg
    · rename_i h0
      split at hg <;> try cases hg
      rename_i h1000
      obtain ⟨x, hx, rx⟩ := r1.get hg
      exact tail_any hl.typeIs slot_list_getitem.lookup (wpAny_getItem_list hl h0 (by lia) (by simpa using hx) ⟨z, .refl S, rx⟩) (hs _ _)
    · rename_i h0
      split at hg <;> try cases hg
      rename_i h1000
      obtain ⟨x, hx, rx⟩ := r1.get hg
      refine tail_any hl.typeIs slot_list_getitem.lookup (wpAny_getItem_list_neg hl (by lia) (by rw [List.size_toArray]; lia) (by lia) ?_ ⟨z, .refl S, rx⟩) (hs _ _)
      rw [List.size_toArray, hlen]
      simpa using hx
  case tup =>
    cases e <;> try exact nos hg
    refine gen ?_; intro GG kGG
    rename_i ds i
    obtain ⟨u, rfl⟩ := hw.int
    obtain ⟨a, vs, k, rfl, h1, r1, _⟩ := hv.tup S.zh
    have hlen := r1.length
    replace hg : idx ds i = some r := hg
    unfold idx at hg
    refine kGG ?_; clear kGG
    split at hg
    · rename_i h0
      split at hg <;> try cases hg
      rename_i h1000
      obtain ⟨x, hx, rx⟩ := r1.get hg
      have hlt : i.toNat < vs.length := (List.getElem?_eq_some_iff.mp hx).1
      exact tail_any (T := "tuple") ⟨_, h1, rfl⟩ slot_tuple_getitem.lookup (P.getItem_tuple h1 (by lia) (by lia) (by rw [List.size_toArray]; exact seqIndex_pos h0 hlt) (by simpa using hx) ⟨z, .refl S, rx⟩) (hs _ _)
    · rename_i h0
      split at hg <;> try cases hg
      rename_i h1000
      obtain ⟨x, hx, rx⟩ := r1.get hg
      refine tail_any (T := "tuple") ⟨_, h1, rfl⟩ slot_tuple_getitem.lookup (P.getItem_tuple h1 (by lia) (by lia) (by rw [List.size_toArray, hlen]; exact seqIndex_neg (by lia) h1000.1) (by simpa using hx) ⟨z, .refl S, rx⟩) (hs _ _)
  case dict =>
    cases e <;> try exact nos hg
    refine gen ?_; intro GG kGG
    rename_i ks ds k
    obtain ⟨u, rfl⟩ := hw.int
    obtain ⟨a, kvs, rfl, h1, h2, rfl, r1⟩ := hv.dict S.zh
    obtain ⟨x, hx, rx⟩ := look_valueAt r1 hg
    refine kGG ?_; clear kGG
    exact tail_any h1.typeIs slot_dict_getitem.lookup (wpAny_getItem_of (isInt_self k u) h1.mapOf hx ⟨z, .toks S _, rx⟩) (hs _ _)
theorem SX.sub {e i : Expr} {pos : Pos} {f1 f2 : EX} (h1 : SB c n sc nm e f1) (h2 : SB c n sc nm i f2)
    (hs : ∀ o j, subscripted i false o j = operate [o, j] (getItem o j) := by intro _ _; rfl) : SX c n sc nm (.Subscript e i pos) (xsub f1 f2) := by
  intro A env z s ρ ad σ d σ' R hsc V hf
  refine qgen ?_; intro QQ kQ
  refine gen ?_; intro GG kGG
  unfold xsub at hf
  first | (refine omD hf ?_; clear hf; intro d1 σ₁ hd1 hf; try cases hf) | (refine omL hf ?_; clear hf; intro d1 σ₁ hd1 hf; try cases hf) | (refine omB hf ?_; clear hf; intro d1 σ₁ hd1 hf; try cases hf) | (refine omC hf ?_; clear hf; intro d1 σ₁ hd1 hf; try cases hf) | (refine omK hf ?_; clear hf; intro d1 σ₁ hd1 hf; try cases hf) | (refine omI hf ?_; clear hf; intro d1 σ₁ hd1 hf; try cases hf) | (refine omT hf ?_; clear hf; intro d1 σ₁ hd1 hf; try cases hf) | (refine omS hf ?_; clear hf; intro d1 σ₁ hd1 hf; try cases hf) | ((split at hf <;> try cases hf); rename_i d1 σ₁ hd1)
  first | (refine omD hf ?_; clear hf; intro d2 σ₂ hd2 hf; try cases hf) | (refine omL hf ?_; clear hf; intro d2 σ₂ hd2 hf; try cases hf) | (refine omB hf ?_; clear hf; intro d2 σ₂ hd2 hf; try cases hf) | (refine omC hf ?_; clear hf; intro d2 σ₂ hd2 hf; try cases hf) | (refine omK hf ?_; clear hf; intro d2 σ₂ hd2 hf; try cases hf) | (refine omI hf ?_; clear hf; intro d2 σ₂ hd2 hf; try cases hf) | (refine omT hf ?_; clear hf; intro d2 σ₂ hd2 hf; try cases hf) | (refine omS hf ?_; clear hf; intro d2 σ₂ hd2 hf; try cases hf) | ((split at hf <;> try cases hf); rename_i d2 σ₂ hd2)
  first | (refine oD hf ?_; clear hf; intro r hr hf; try cases hf) | ((split at hf <;> cases hf); rename_i r hr)
  refine kGG ?_; clear kGG
  refine Subscript_ (monoX (h1 R hsc V hd1) fun v s₁ z₁ p r1 => ?_)
  refine monoX (h2 R hsc (V.post p) hd2) fun w s₂ z₂ p₂ r2 => ?_
  refine monoX (sub_core p₂.st (r1.post p₂) r2 hr hs) fun u s₃ z₃ p₃ r3 => ?_
  exact (kQ _ _ ⟨z₃, (p.trans p₂).trans p₃, r3⟩)
/-! ### slices -/
noncomputable def partOf : D → Option (Option Int)
  | .none => some none
  | .int i => some (some i)
  | _ => none
noncomputable def slT (pl pu : Option Int) (ds : List D) : List D :=
  (List.range (Builtin.Slice.slicePlaces (Builtin.Slice.sliceAdjust pl pu 1 ds.length).1 (Builtin.Slice.sliceAdjust pl pu 1 ds.length).2 1)).filterMap
    fun (k : Nat) => ds[((Builtin.Slice.sliceAdjust pl pu 1 ds.length).1 + (k : Int) * 1).toNat]?
noncomputable def slL (pl pu : Option Int) (ds : List D) : List D :=
  (sliceRange (sliceBounds pl pu none ds.length).1 (sliceBounds pl pu none ds.length).2.1 (sliceBounds pl pu none ds.length).2.2).filterMap fun k => ds[k]?
noncomputable def slS (d : D) (pl pu : Option Int) : Option D := match d with
  | .tup ds => if ds.length ≤ 1000 then some (.tup (slT pl pu ds)) else none
  | .list ds => if ds.length ≤ 1000 then some (.list (slL pl pu ds)) else none
  | _ => none
noncomputable def xslc (f fl fu : EX) : EX := fun ρ σ => match f ρ σ with
  | some (d, σ) => match fl ρ σ with
    | some (l, σ) => match fu ρ σ with
      | some (u, σ) => match partOf l, partOf u with
        | some pl, some pu => match slS d pl pu with
          | some r => some (r, σ)
          | none => none
        | _, _ => none
      | none => none
    | none => none
  | none => none
noncomputable def SPt (c : Cx) (n : Nat) (sc : Scope) (nm : List Str) (e : Option Expr) (f : EX) : Prop :=
  ∀ ⦃A env z s ρ ad σ d σ'⦄, Room A n → env.scope = sc → VSt c z env s nm ρ ad σ → f ρ σ = some (d, σ') →
    wpAny (model c.prog c.w) A (evalPart e env) (fun v s' => ∃ z', EPost c z s z' s' σ' ∧ Rep c z' v d) no2 s
theorem SPt.non : SPt c n sc nm none (xk .none) := by
  intro A env z s ρ ad σ d σ' R hs V hf
  refine qgen ?_; intro QQ kQ
  cases hf
  exact wpAny_pure (kQ _ _ ⟨z, .refl V.st, .none⟩)
theorem SPt.som {e : Expr} {f : EX} (h : SX c n sc nm e f) : SPt c n sc nm (some e) f := by
  intro A env z s ρ ad σ d σ' R hs V hf
  exact h R hs V hf
theorem RepL.fm {z : Heap} {vs : List Value} {ds : List D} (r : RepL c z vs ds) : ∀ l : List Nat, RepL c z (l.filterMap (vs[·]?)) (l.filterMap (ds[·]?))
  | [] => .nil
  | k :: l => by
    rw [List.filterMap_cons, List.filterMap_cons]
    cases e : ds[k]? with
    | none =>
      have : vs[k]? = none := by
        rw [List.getElem?_eq_none_iff] at e ⊢
        rw [r.length]; exact e
      rw [this]
      exact r.fm l
    | some d =>
      obtain ⟨v, hv, rv⟩ := r.get e
      rw [hv]
      exact .cons rv (r.fm l)
theorem range_fm {α : Type} (l : List α) : (List.range l.length).filterMap (l[·]?) = l := by
  induction l with
  | nil => rfl
  | cons a l ih =>
    rw [List.length_cons, List.range_succ_eq_map, List.filterMap_cons, List.filterMap_map]
    simp only [List.getElem?_cons_zero]
    congr 1
theorem isPart_of {z : Heap} {v : Value} {d : D} {p : Option Int} (r : Rep c z v d) (h : partOf d = some p) : IsPart v p := by
  unfold partOf at h
  split at h <;> cases h
  · obtain rfl := r.none_inv; exact .none
  · obtain ⟨t, rfl⟩ := r.int_inv; exact .int _ _
theorem slicePart_ {prog : Program} {w : World} {A : Around} {E : Value → Shared → Prop} {s : Shared} {v : Value} {p : Option Int} {Q : Option Int → Shared → Prop} (h : IsPart v p) (q : Q p s) : wpAny (model prog w) A (Builtin.Slice.slicePartIndex v) Q E s := by
  cases h with
  | none => exact slicePart_none q
  | int i t => exact slicePart_int q
theorem sliceApplied_ {prog : Program} {w : World} {A : Around} {E : Value → Shared → Prop} {s : Shared} {sl : Addr} {vl vu : Value} {pl pu : Option Int} {k : Int} {Q : Int × Int × Nat → Shared → Prop} (hs : s.heap.IsSliceOf sl vl vu .none) (hl : IsPart vl pl) (hu : IsPart vu pu)
    (h : Q ((Builtin.Slice.sliceAdjust pl pu 1 k).1, 1, Builtin.Slice.slicePlaces (Builtin.Slice.sliceAdjust pl pu 1 k).1 (Builtin.Slice.sliceAdjust pl pu 1 k).2 1) s) :
    wpAny (model prog w) A (Builtin.Slice.sliceApplied (.ref sl) (pure k)) Q E s := by
  obtain ⟨os, hos, hcs, hds⟩ := id hs
  unfold Builtin.Slice.sliceApplied Builtin.Slice.sliceFields
  refine wpAny_bind (wpAny_bind (wpAny_field hos hds (x := vl) rfl (wpAny_bind (wpAny_field hos hds (x := vu) rfl (wpAny_bind (wpAny_field hos hds (x := .none) rfl (wpAny_pure ?_)))))))
  refine wpAny_bind (slicePart_none ?_)
  show wpAny _ _ (if ((1 : Int) == 0) = true then _ else _) _ _ s
  rw [if_neg (by decide)]
  refine wpAny_bind (slicePart_ hl (wpAny_bind (slicePart_ hu (wpAny_bind (wpAny_pure ?_)))))
  exact wpAny_pure h
theorem getItem_tuple_sl {prog : Program} {w : World} {A : Around} {E : Value → Shared → Prop} {s : Shared} {t sl : Addr} {items : Array Value} {vl vu : Value} {pl pu : Option Int} {Q : Value → Shared → Prop} (ht : IsTup s.heap t items)
    (hs : s.heap.IsSliceOf sl vl vu .none) (hl : IsPart vl pl) (hu : IsPart vu pu)
    (h1 : items = ((List.range (Builtin.Slice.slicePlaces (Builtin.Slice.sliceAdjust pl pu 1 items.size).1 (Builtin.Slice.sliceAdjust pl pu 1 items.size).2 1)).filterMap fun (k : Nat) => items[((Builtin.Slice.sliceAdjust pl pu 1 items.size).1 + (k : Int) * 1).toNat]?).toArray → Q (.ref t) s)
    (h2 : Q (.ref s.heap.objs.size) { s with heap := s.heap.push { cls := .type "tuple", data := .seq ((List.range (Builtin.Slice.slicePlaces (Builtin.Slice.sliceAdjust pl pu 1 items.size).1 (Builtin.Slice.sliceAdjust pl pu 1 items.size).2 1)).filterMap fun (k : Nat) => items[((Builtin.Slice.sliceAdjust pl pu 1 items.size).1 + (k : Int) * 1).toNat]?).toArray } })
    (hm : Builtin.Slice.slicePlaces (Builtin.Slice.sliceAdjust pl pu 1 items.size).1 (Builtin.Slice.sliceAdjust pl pu 1 items.size).2 1 ≤ 1000) :
    wpAny (model prog w) A (getItem (.ref t) (.ref sl)) Q E s := by
  obtain ⟨os, hos, hcs, hds⟩ := id hs
  have hTs : s.TypeIs (.ref sl) "slice" := ⟨os, hos, hcs⟩
  unfold getItem
  try with_reducible refine wpAny_holding ?_
  first | refine wpAny_bind (wpAny_pure ?_) | skip
  refine wpAny_bind (wpAny_sequenceKey ht.typeIs (by decide) ?_)
  refine wpAny_bind (wpAny_callSpecial?_slot (name := Str.ofString "__getitem__") ht.typeIs slot_tuple_getitem
    (wpAny_call_entry slot_tuple_getitem ht.typeIs entry_tuple_getitem ?_ (args_tuple_getitem _ _)))
  show wpAny _ _ (Builtin.Tuple.tupleItemsOf (.ref t) >>= _) _ _ s
  refine wpAny_bind (tupleItemsOf_ ht ?_)
  refine wpAny_bind (wpAny_typeOf hTs ?_)
  rw [if_pos (by decide)]
  refine wpAny_bind (sliceApplied_ hs hl hu ?_)
  generalize hq : Builtin.Slice.sliceAdjust pl pu 1 (items.size : Int) = q at h1 h2 hm ⊢
  obtain ⟨a, b⟩ := q
  generalize hm' : Builtin.Slice.slicePlaces a b 1 = m at h1 h2 hm ⊢
  show wpAny _ _ (if (a == 0 && (1 : Int) == 1 && m == items.size) = true then _ else _) _ _ s
  have hok : sizeOk (.seq ((List.range m).filterMap fun (k : Nat) => items[(a + (k : Int) * 1).toNat]?).toArray) := by
    show _ ≤ sizeLine
    rw [List.size_toArray, sizeLine_eq]
    have := List.length_filterMap_le (fun (k : Nat) => items[(a + (k : Int) * 1).toNat]?) (List.range m)
    rw [List.length_range] at this
    lia
  split
  · rename_i hc
    simp only [Bool.and_eq_true, beq_iff_eq] at hc
    obtain ⟨⟨ha, _⟩, hmz⟩ := hc
    have hsame : items = ((List.range m).filterMap fun (k : Nat) => items[(a + (k : Int) * 1).toNat]?).toArray := by
      subst ha hmz
      have e : (fun (k : Nat) => items[((0 : Int) + (k : Int) * 1).toNat]?) = fun k => items.toList[k]? := by
        funext k
        have : ((0 : Int) + (k : Int) * 1).toNat = k := by lia
        rw [this]; simp
      apply Array.toList_inj.mp
      show _ = (List.filterMap (fun (k : Nat) => items[((0 : Int) + (k : Int) * 1).toNat]?) (List.range items.size))
      rw [e, ← Array.length_toList]
      exact (range_fm _).symm
    have hq := h1 hsame
    refine wpAny_bind (m := Builtin.Tuple.tupleIsExact _) ?_
    unfold Builtin.Tuple.tupleIsExact
    refine wpAny_bind (wpAny_typeOf ht.typeIs (wpAny_pure ?_))
    rw [if_pos (by decide)]
    refine wpAny_bind (wpAny_rule ?_)
    first
      | exact wpAny_bind (m := ret _) (wpAny_pure (wpAny_pure ⟨_, rfl, wpAny_pure hq⟩))
      | exact wpAny_bind (m := ret _) (wpAny_pure (wpAny_pure ⟨_, rfl, hq⟩))
      | exact wpAny_bind (m := ret _) (wpAny_pure ⟨_, rfl, wpAny_pure hq⟩)
  · first
      | exact wpAny_bind (m := Builtin.Tuple.tupleExact _) (wpAny_newObj_type (wpAny_pure ⟨_, rfl, wpAny_pure h2⟩) hok)
      | exact wpAny_bind (m := Builtin.Tuple.tupleExact _) (wpAny_newObj_type (wpAny_bind (wpAny_pure (wpAny_pure ⟨_, rfl, wpAny_pure h2⟩))) hok)
      | exact wpAny_bind (wpAny_bind (m := Builtin.Tuple.tupleExact _) (wpAny_newObj_type (wpAny_pure (wpAny_pure ⟨_, rfl, wpAny_pure h2⟩)) hok))
      | exact wpAny_bind (wpAny_bind (m := Builtin.Tuple.tupleExact _) (wpAny_newObj_type (wpAny_pure ⟨_, rfl, wpAny_pure h2⟩) hok))
theorem adj_le (pl pu : Option Int) (k : Nat) : 0 ≤ (Builtin.Slice.sliceAdjust pl pu 1 k).1 ∧ (Builtin.Slice.sliceAdjust pl pu 1 k).2 ≤ k := by
  unfold Builtin.Slice.sliceAdjust
  constructor
  · cases pl with
    | none => exact Int.le_refl 0
    | some v =>
      show 0 ≤ if v < 0 then max (v + (k : Int)) 0 else min v (k : Int)
      clear pu
      split <;> lia
  · cases pu with
    | none => exact Int.le_refl _
    | some v =>
      show (if v < 0 then max (v + (k : Int)) 0 else min v (k : Int)) ≤ (k : Int)
      clear pl
      split <;> lia
theorem places_le (pl pu : Option Int) (k : Nat) : Builtin.Slice.slicePlaces (Builtin.Slice.sliceAdjust pl pu 1 k).1 (Builtin.Slice.sliceAdjust pl pu 1 k).2 1 ≤ k := by
  have h := adj_le pl pu k
  generalize Builtin.Slice.sliceAdjust pl pu 1 k = q at h ⊢
  obtain ⟨a, b⟩ := q
  show (if a < b then (b - a - 1) / 1 + 1 else 0).toNat ≤ k
  rw [Int.ediv_one]
  obtain ⟨h1, h2⟩ := h
  split <;> lia
theorem SX.slc {e : Expr} {lower upper : Option Expr} {p pos : Pos} {f fl fu : EX} (h1 : SB c n sc nm e f) (hl : SPt c n sc nm lower fl) (hu : SPt c n sc nm upper fu) :
    SX c n sc nm (.Subscript e (.Slice lower upper none p) pos) (xslc f fl fu) := by
  intro A env z s ρ ad σ d σ' R hsc V hf
  refine gen ?_; intro GG kGG
  unfold xslc at hf
  first | (refine omD hf ?_; clear hf; intro d1 σ₁ hd1 hf; try cases hf) | (refine omL hf ?_; clear hf; intro d1 σ₁ hd1 hf; try cases hf) | (refine omB hf ?_; clear hf; intro d1 σ₁ hd1 hf; try cases hf) | (refine omC hf ?_; clear hf; intro d1 σ₁ hd1 hf; try cases hf) | (refine omK hf ?_; clear hf; intro d1 σ₁ hd1 hf; try cases hf) | (refine omI hf ?_; clear hf; intro d1 σ₁ hd1 hf; try cases hf) | (refine omT hf ?_; clear hf; intro d1 σ₁ hd1 hf; try cases hf) | (refine omS hf ?_; clear hf; intro d1 σ₁ hd1 hf; try cases hf) | ((split at hf <;> try cases hf); rename_i d1 σ₁ hd1)
  first | (refine omD hf ?_; clear hf; intro dl σ₂ hdl hf; try cases hf) | (refine omL hf ?_; clear hf; intro dl σ₂ hdl hf; try cases hf) | (refine omB hf ?_; clear hf; intro dl σ₂ hdl hf; try cases hf) | (refine omC hf ?_; clear hf; intro dl σ₂ hdl hf; try cases hf) | (refine omK hf ?_; clear hf; intro dl σ₂ hdl hf; try cases hf) | (refine omI hf ?_; clear hf; intro dl σ₂ hdl hf; try cases hf) | (refine omT hf ?_; clear hf; intro dl σ₂ hdl hf; try cases hf) | (refine omS hf ?_; clear hf; intro dl σ₂ hdl hf; try cases hf) | ((split at hf <;> try cases hf); rename_i dl σ₂ hdl)
  first | (refine omD hf ?_; clear hf; intro du σ₃ hdu hf; try cases hf) | (refine omL hf ?_; clear hf; intro du σ₃ hdu hf; try cases hf) | (refine omB hf ?_; clear hf; intro du σ₃ hdu hf; try cases hf) | (refine omC hf ?_; clear hf; intro du σ₃ hdu hf; try cases hf) | (refine omK hf ?_; clear hf; intro du σ₃ hdu hf; try cases hf) | (refine omI hf ?_; clear hf; intro du σ₃ hdu hf; try cases hf) | (refine omT hf ?_; clear hf; intro du σ₃ hdu hf; try cases hf) | (refine omS hf ?_; clear hf; intro du σ₃ hdu hf; try cases hf) | ((split at hf <;> try cases hf); rename_i du σ₃ hdu)
  refine kGG ?_; clear kGG
  split at hf <;> try cases hf
  rename_i pl pu epl epu
  first | (refine oD hf ?_; clear hf; intro r hr hf; try cases hf) | ((split at hf <;> cases hf); rename_i r hr)
  refine Subscript_ (monoX (h1 R hsc V hd1) fun v s₁ z₁ p r1 => ?_)
  refine wpAny_Slice (monoX (hl R hsc (V.post p) hdl) fun vl s₂ z₂ p₂ r2 => ?_)
  refine monoX (hu R hsc (V.post (p.trans p₂)) hdu) fun vu s₃ z₃ p₃ r3 => ?_
  refine wpAny_pure ?_
  have q := (p.trans p₂).trans p₃
  have g := EPost.grown (tk := s₃.toks) q.st (h' := s₃.heap.push { cls := .type "slice", data := .fields #[vl, vu, .none] }) fun a o' e => Heap.get?_push_of_some _ e
  have hs : ((s₃.heap.push { cls := .type "slice", data := .fields #[vl, vu, .none] })).IsSliceOf s₃.heap.objs.size vl vu .none := Heap.IsSliceOf.new ..
  have ip := isPart_of (r2.mono p₃.zz) epl
  have iq := isPart_of r3 epu
  have rv := (r1.post (p₂.trans p₃)).post g
  have done : ∀ {u s₄ z₄}, EPost c z₃ { s₃ with heap := s₃.heap.push { cls := .type "slice", data := .fields #[vl, vu, .none] } } z₄ s₄ σ' → Rep c z₄ u d → ∃ z', EPost c z s z' s₄ σ' ∧ Rep c z' u d :=
    fun a b => ⟨_, (q.trans g).trans a, b⟩
  unfold slS at hr
  split at hr
  · first | (refine oD hr ?_; clear hr; intro ds hlen hr; try cases hr) | ((split at hr <;> cases hr); rename_i ds hlen)
    refine gen ?_; intro GG kGG
    obtain ⟨a, vs, k, rfl, e1, e2, e3⟩ := rv.tup g.st.zh
    have ht : IsTup (s₃.heap.push { cls := .type "slice", data := .fields #[vl, vu, .none] }) a vs.toArray := ⟨_, e1, rfl, k, rfl⟩
    have hf : (fun (k : Nat) => vs.toArray[((Builtin.Slice.sliceAdjust pl pu 1 (vs.toArray.size : Nat)).1 + (k : Int) * 1).toNat]?) = fun (k : Nat) => vs[((Builtin.Slice.sliceAdjust pl pu 1 ds.length).1 + (k : Int) * 1).toNat]? := by
      funext k
      rw [List.size_toArray, e2.length]; simp
    have hit : RepL c z₃ ((List.range (Builtin.Slice.slicePlaces (Builtin.Slice.sliceAdjust pl pu 1 (vs.toArray.size : Nat)).1 (Builtin.Slice.sliceAdjust pl pu 1 (vs.toArray.size : Nat)).2 1)).filterMap
        fun (k : Nat) => vs.toArray[((Builtin.Slice.sliceAdjust pl pu 1 (vs.toArray.size : Nat)).1 + (k : Int) * 1).toNat]?) (slT pl pu ds) := by
      rw [hf, List.size_toArray, e2.length]
      unfold slT
      have := e2.fm ((List.range (Builtin.Slice.slicePlaces (Builtin.Slice.sliceAdjust pl pu 1 ds.length).1 (Builtin.Slice.sliceAdjust pl pu 1 ds.length).2 1)).map fun (k : Nat) => ((Builtin.Slice.sliceAdjust pl pu 1 ds.length).1 + (k : Int) * 1).toNat)
      rw [List.filterMap_map, List.filterMap_map] at this
      exact this
    refine kGG ?_; clear kGG
    refine tail_any ht.typeIs slot_tuple_getitem.lookup (getItem_tuple_sl ht hs ip iq ?_ ?_ ?_) rfl
    · intro hsame
      have hh : slT pl pu ds = ds ∨ True := .inr trivial
      obtain ⟨z₄, p₄⟩ : ∃ z₄, EPost c z₃ { s₃ with heap := s₃.heap.push { cls := .type "slice", data := .fields #[vl, vu, .none] } } z₄ { s₃ with heap := s₃.heap.push { cls := .type "slice", data := .fields #[vl, vu, .none] } } σ' := ⟨_, .refl g.st⟩
      refine done (.refl g.st) ?_
      cases e3 with
      | @tup _ vs' n' _ e4 e5 =>
        have e6 := g.st.zh _ _ e4
        rw [e1] at e6
        have e7 := Option.some.inj e6
        have e8 := congrArg Obj.data e7
        injection e8 with e9
        refine .tup e4 ?_
        have e10 : vs' = vs := by simpa using congrArg Array.toList e9.symm
        rw [e10]
        have e11 := congrArg Array.toList hsame
        simp only at e11
        have : vs = ((List.range (Builtin.Slice.slicePlaces (Builtin.Slice.sliceAdjust pl pu 1 (vs.toArray.size : Nat)).1 (Builtin.Slice.sliceAdjust pl pu 1 (vs.toArray.size : Nat)).2 1)).filterMap
            fun (k : Nat) => vs.toArray[((Builtin.Slice.sliceAdjust pl pu 1 (vs.toArray.size : Nat)).1 + (k : Int) * 1).toNat]?) := e11
        rw [this]
        exact hit
    · obtain ⟨z₄, p₄, e4⟩ := EPost.alloc g.st { cls := .type "tuple", data := .seq ((List.range (Builtin.Slice.slicePlaces (Builtin.Slice.sliceAdjust pl pu 1 (vs.toArray.size : Nat)).1 (Builtin.Slice.sliceAdjust pl pu 1 (vs.toArray.size : Nat)).2 1)).filterMap
        fun (k : Nat) => vs.toArray[((Builtin.Slice.sliceAdjust pl pu 1 (vs.toArray.size : Nat)).1 + (k : Int) * 1).toNat]?).toArray } rfl s₃.toks
      exact done p₄ (.tup e4 (hit.mono p₄.zz))
    · have := places_le pl pu vs.toArray.size
      rw [List.size_toArray, e2.length] at this ⊢
      lia
  · first | (refine oD hr ?_; clear hr; intro ds hlen hr; try cases hr) | ((split at hr <;> cases hr); rename_i ds hlen)
    refine gen ?_; intro GG kGG
    obtain ⟨a, vs, k, rfl, e1, e2⟩ := rv.list g.st.zh
    have hl : (s₃.heap.push { cls := .type "slice", data := .fields #[vl, vu, .none] }).IsList a vs.toArray := ⟨_, e1, rfl, k, rfl⟩
    have hit : RepL c z₃ (slicePick vs.toArray pl pu none).toList (slL pl pu ds) := by
      unfold slicePick slL
      rw [List.size_toArray, e2.length]
      have := e2.fm (sliceRange (sliceBounds pl pu none ds.length).1 (sliceBounds pl pu none ds.length).2.1 (sliceBounds pl pu none ds.length).2.2)
      simpa using this
    refine kGG ?_; clear kGG
    refine tail_any hl.typeIs slot_list_getitem.lookup (wpAny_getItem_list_slice hl hs ip iq .none (by simp) ?_ (small_fits (by rw [List.size_toArray, e2.length]; exact hlen))) rfl
    obtain ⟨z₄, p₄, e4⟩ := EPost.alloc g.st { cls := .type "list", data := .seq (slicePick vs.toArray pl pu none).toList.toArray } rfl s₃.toks
    exact done (by simpa using p₄) (.list e4 (hit.mono p₄.zz))
  · cases hr
end
end Mine
end
section
open PySem PySem.Calls PySem.W PyProof.Rows
namespace Mine
section
variable {c : Cx} {n : Nat} {sc : Scope} {nm : List Str}
theorem St0.kin {z : Heap} {s : Shared} {σ : Src} (ok : c.Ok) (S : St0 c z s σ) : c.K.In s.heap := ok.X.keeps (S.base.trans S.zh)
theorem new_sys {z : Heap} {s : Shared} {σ : Src} (ok : c.Ok) (S : St0 c z s σ) {a : Addr} (ha : s.heap.get? a = none) : (a == sysModules) = false := by
  rw [beq_eq_false_iff_ne]
  intro e
  subst e
  obtain ⟨o, ho⟩ := ok.sys
  rw [(S.base.trans S.zh) _ _ ho] at ha
  cases ha
/-! ### attributes of a Body -/
theorem findObj_of {K : Frag} {C : Addr} {od : Obj} {name : Str} {v : Value} {cd : ClassData} (hc : clsIn K C = some cd) (hd : cd.hasDict = true) (hf : findIn K (.ref C) name = some none)
    (hl : lookIn name od = some (some v)) : findObj K C (some od) name = some (.value v) := by
  unfold findObj
  rw [hc, hf]
  simp only [Option.bind_some, PySem.W.ownOf, hd, if_true, hl]
theorem handed_of {z : Heap} {v : Value} {d : D} (r : Rep c z v d) : handedIn v = true := by cases r <;> rfl
noncomputable def xattr (k : Nat) (f : EX) : EX := fun ρ σ => match f ρ σ with
  | some (.body ds, σ) => match ds[k]? with
    | some d => some (d, σ)
    | none => none
  | _ => none
theorem body_get {od : Obj} {vs : List Value} {k : Nat} {attr : Str} {v : Value} (h : BodyDict c od vs) (hk : bodyNames[k]? = some attr) (hv : vs[k]? = some v) : lookIn attr od = some (some v) := by
  refine gen ?_; intro GG kGG
  obtain ⟨v1, v2, v3, v4, v5, t1, t2, t3, t4, t5, n, rfl, rfl⟩ := h
  refine kGG ?_; clear kGG
  match k, hk, hv with
  | 0, hk, hv => cases hk; cases hv; rfl
  | 1, hk, hv => cases hk; cases hv; rfl
  | 2, hk, hv => cases hk; cases hv; rfl
  | 3, hk, hv => cases hk; cases hv; rfl
  | 4, hk, hv => cases hk; cases hv; rfl
  | k + 5, hk, hv => simp at hv
theorem SX.attr (ok : c.Ok) {e : Expr} {attr : Str} {pos : Pos} {k : Nat} {f : EX} (h : SX c n sc nm e f) (hk : bodyNames[k]? = some attr)
    (he : ∀ env, eval (.Attribute e attr pos) env = (do
      let o ← eval e env
      standAt pos.atName
      let r ← holding [o] (getAttr o attr true)
      letTemporaryGo e o r
      pure r) := by intro _; with_unfolding_all rfl) : SX c n sc nm (.Attribute e attr pos) (xattr k f) := by
  intro A env z s ρ ad σ d σ' R hs V hf
  refine qgen ?_; intro QQ kQ
  refine gen ?_; intro GG kGG
  unfold xattr at hf
  first | (refine omD hf ?_; clear hf; intro ds σ₁ hd hf; try cases hf) | (refine omL hf ?_; clear hf; intro ds σ₁ hd hf; try cases hf) | (refine omB hf ?_; clear hf; intro ds σ₁ hd hf; try cases hf) | (refine omC hf ?_; clear hf; intro ds σ₁ hd hf; try cases hf) | (refine omK hf ?_; clear hf; intro ds σ₁ hd hf; try cases hf) | (refine omI hf ?_; clear hf; intro ds σ₁ hd hf; try cases hf) | (refine omT hf ?_; clear hf; intro ds σ₁ hd hf; try cases hf) | (refine omS hf ?_; clear hf; intro ds σ₁ hd hf; try cases hf) | ((split at hf <;> try cases hf); rename_i ds σ₁ hd)
  first | (refine oIf hf ?_; clear hf; intro hg hf; cases hf) | ((split at hf <;> cases hf); rename_i hg)
  refine kGG ?_; clear kGG
  refine Attribute_any_ (monoX (h R hs V hd) fun v s₁ z₁ p r => ?_) (he env)
  refine gen ?_; intro GG kGG
  obtain ⟨x, dx, od, vs, rfl, h1, h2, h3, h4⟩ := r.body_inv
  obtain ⟨v, hv, rv⟩ := h4.get hg
  obtain ⟨cd, c1, c2⟩ := ok.cls
  have I : InstAt s₁.heap _ (instObj c.C _) c.C (some _) := ⟨p.st.zh _ _ h1, rfl, rfl, p.st.zh _ _ h2⟩
  refine kGG ?_; clear kGG
  refine get_value (p.st.kin ok) I ok.ga (findObj_of c1 c2 (ok.no _ (List.mem_of_getElem? hk)) (body_get h3 hk hv)) (handed_of rv) ?_
  exact (kQ _ _ ⟨z₁, p.trans (.toks p.st _), rv⟩)
/-! ### calls of built-ins -/
noncomputable def GBi (c : Cx) (x : Str) (v : Value) : Prop := nsIn c.K mainGlobals x = some none ∧ bootBuiltins x = some v ∧ x ≠ "__name__"
theorem name_bi (ok : c.Ok) {A : Around} {env : Env} {z : Heap} {s : Shared} {ρ : Vars} {ad : Nat → Addr} {σ : Src} {x : Str} {v : Value} {pos : Pos} {Q : Value → Shared → Prop} {E : Value → Shared → Prop} {M : Model} (g : GBi c x v) (V : VSt c z env s nm ρ ad σ)
    (hx : env.scope.names.lookup x = some .globalImplicit) (hd : (x == ("__debug__" : Str)) = false) (h : Q v s) : wpAny M A (eval (.Name x pos) env) Q E s := by
  refine gen ?_; intro GG kGG
  obtain ⟨p, loose, mg, mb, T⟩ := ok.T
  have hk : Sub c.h₀ s.heap := V.st.base.trans V.st.zh
  refine kGG ?_; clear kGG
  refine Name_function_global V.kind hx (loadGlobal_builtin (env := env) (mg := mg) (mb := mb) ?_ (mg_none_of ok.X T.g g.1) ?_ ((T.builtins x g.2.2).trans g.2.1) h) hd
  · rw [V.glob]; exact T.g.keeps hk
  · rw [V.blt]; exact T.b.keeps hk
theorem SX.bi1 (ok : c.Ok) {x : Str} {id : String} {e : Expr} {p pos : Pos} {g : D → Option D} {f : EX} (gb : GBi c x (.builtin id)) (h : Op1 c n (fun v => call (.builtin id) [v]) g) (k : SB c n sc nm e f)
    (hx : sc.names.lookup x = some .globalImplicit := by rfl) (hs : ∀ env, starEach [e] env = [(false, eval e env)] := by intro _; rfl) (hd : (x == ("__debug__" : Str)) = false := by decide +kernel) : SX c n sc nm (.Call (.Name x p) [e] [] pos) (op1 g f) := by
  intro A env z s ρ ad σ d σ' R hsc V hf
  refine qgen ?_; intro QQ kQ
  refine gen ?_; intro GG kGG
  unfold op1 at hf
  first | (refine omD hf ?_; clear hf; intro d1 σ₁ hd1 hf; try cases hf) | (refine omL hf ?_; clear hf; intro d1 σ₁ hd1 hf; try cases hf) | (refine omB hf ?_; clear hf; intro d1 σ₁ hd1 hf; try cases hf) | (refine omC hf ?_; clear hf; intro d1 σ₁ hd1 hf; try cases hf) | (refine omK hf ?_; clear hf; intro d1 σ₁ hd1 hf; try cases hf) | (refine omI hf ?_; clear hf; intro d1 σ₁ hd1 hf; try cases hf) | (refine omT hf ?_; clear hf; intro d1 σ₁ hd1 hf; try cases hf) | (refine omS hf ?_; clear hf; intro d1 σ₁ hd1 hf; try cases hf) | ((split at hf <;> try cases hf); rename_i d1 σ₁ hd1)
  first | (refine oD hf ?_; clear hf; intro r hr hf; try cases hf) | ((split at hf <;> cases hf); rename_i r hr)
  refine kGG ?_; clear kGG
  refine Call_name1 (hs env) (name_bi ok gb V (by rw [hsc]; exact hx) hd ?_)
  refine callWith_builtin1 (monoX (k R hsc V hd1) fun v s₁ z₁ p r1 => ?_)
  exact monoX (h R p.st r1 hr) fun u s₂ z₂ p₂ r2 => (kQ _ _ ⟨z₂, p.trans p₂, r2⟩)
theorem SX.ty1 (ok : c.Ok) {x : Str} {T : String} {e : Expr} {p pos : Pos} {g : D → Option D} {f : EX} (gb : GBi c x (.type T)) (h : Op1 c n (fun v => call (.type T) [v]) g) (k : SB c n sc nm e f)
    (hx : sc.names.lookup x = some .globalImplicit := by rfl) (hs : ∀ env, starEach [e] env = [(false, eval e env)] := by intro _; rfl) (hd : (x == ("__debug__" : Str)) = false := by decide +kernel) : SX c n sc nm (.Call (.Name x p) [e] [] pos) (op1 g f) := by
  intro A env z s ρ ad σ d σ' R hsc V hf
  refine qgen ?_; intro QQ kQ
  refine gen ?_; intro GG kGG
  unfold op1 at hf
  first | (refine omD hf ?_; clear hf; intro d1 σ₁ hd1 hf; try cases hf) | (refine omL hf ?_; clear hf; intro d1 σ₁ hd1 hf; try cases hf) | (refine omB hf ?_; clear hf; intro d1 σ₁ hd1 hf; try cases hf) | (refine omC hf ?_; clear hf; intro d1 σ₁ hd1 hf; try cases hf) | (refine omK hf ?_; clear hf; intro d1 σ₁ hd1 hf; try cases hf) | (refine omI hf ?_; clear hf; intro d1 σ₁ hd1 hf; try cases hf) | (refine omT hf ?_; clear hf; intro d1 σ₁ hd1 hf; try cases hf) | (refine omS hf ?_; clear hf; intro d1 σ₁ hd1 hf; try cases hf) | ((split at hf <;> try cases hf); rename_i d1 σ₁ hd1)
  first | (refine oD hf ?_; clear hf; intro r hr hf; try cases hf) | ((split at hf <;> cases hf); rename_i r hr)
  refine kGG ?_; clear kGG
  refine Call_name1 (hs env) (name_bi ok gb V (by rw [hsc]; exact hx) hd ?_)
  refine PySem.callWith_type1 (monoX (k R hsc V hd1) fun v s₁ z₁ p r1 => ?_)
  exact monoX (h R p.st r1 hr) fun u s₂ z₂ p₂ r2 => (kQ _ _ ⟨z₂, p.trans p₂, r2⟩)
noncomputable def lenD : D → Option D
  | .list ds => if ds.length ≤ 1000 then some (.int ds.length) else none
  | .tup ds => if ds.length ≤ 1000 then some (.int ds.length) else none
  | _ => none
theorem op_len : Op1 c n (fun v => call (.builtin "len") [v]) lenD := by
  intro A z s σ v d r R S hv hg
  refine qgen ?_; intro QQ kQ
  unfold lenD at hg
  split at hg
  · first | (refine oD hg ?_; clear hg; intro ds hl hg; try cases hg) | ((split at hg <;> cases hg); rename_i ds hl)
    refine gen ?_; intro GG kGG
    obtain ⟨a, vs, k, rfl, h1, r1⟩ := hv.list S.zh
    refine kGG ?_; clear kGG
    refine call_len_list (items := vs.toArray) ⟨_, h1, rfl, k, rfl⟩ (by rw [List.size_toArray, r1.length]; lia) ?_
    rw [List.size_toArray, r1.length]
    exact (kQ _ _ ⟨z, .toks S _, .int _ _⟩)
  · first | (refine oD hg ?_; clear hg; intro ds hl hg; try cases hg) | ((split at hg <;> cases hg); rename_i ds hl)
    refine gen ?_; intro GG kGG
    obtain ⟨a, vs, k, rfl, h1, r1, _⟩ := hv.tup S.zh
    refine kGG ?_; clear kGG
    refine P.len_tuple h1 (by rw [List.size_toArray, r1.length]; lia) ?_
    rw [List.size_toArray, r1.length]
    exact (kQ _ _ ⟨z, .toks S _, .int _ _⟩)
  · cases hg
noncomputable def intD : D → Option D
  | .int i => some (.int i)
  | .bool b => some (.int (if b then 1 else 0))
  | _ => none
theorem op_int : Op1 c n (fun v => call (.type "int") [v]) intD := by
  intro A z s σ v d r R S hv hg
  refine qgen ?_; intro QQ kQ
  unfold intD at hg
  split at hg <;> cases hg
  · obtain ⟨t, rfl⟩ := hv.int
    exact call_int_int (kQ _ _ ⟨z, .refl S, .int _ _⟩)
  · obtain rfl := hv.bool
    exact call_int_bool (kQ _ _ ⟨z, .toks S _, .int _ _⟩)
noncomputable def listD : D → Option D
  | .list ds => if ds.length ≤ 1000 then some (.list ds) else none
  | .tup ds => if ds.length ≤ 1000 then some (.list ds) else none
  | _ => none
theorem op_list : Op1 c n (fun v => call (.type "list") [v]) listD := by
  intro A z s σ v d r R S hv hg
  have go : ∀ {a : Addr} {T : String} {vs : List Value} {k : Nat} {ds : List D}, (T = "list" ∨ T = "tuple") → s.heap.get? a = some { cls := .type T, data := .seq vs.toArray k } → RepL c z vs ds → ds.length ≤ 1000 →
      wpAny (model c.prog c.w) A (call (.type "list") [.ref a]) (fun u s' => ∃ z', EPost c z s z' s' σ ∧ Rep c z' u (.list ds)) no2 s := by
    intro a T vs k ds hT h1 r1 hl
    refine call_list_seq a hT h1 rfl rfl (fun h' c' hk hD => ?_) (small_fits (by rw [List.size_toArray, r1.length]; exact hl))
    obtain ⟨z', p, e⟩ := EPost.got (tk := s.toks) S hk (get_size _) hD
    exact ⟨z', p, .list e (r1.mono p.zz)⟩
  unfold listD at hg
  split at hg
  · first | (refine oD hg ?_; clear hg; intro ds hl hg; try cases hg) | ((split at hg <;> cases hg); rename_i ds hl)
    refine gen ?_; intro GG kGG
    obtain ⟨a, vs, k, rfl, h1, r1⟩ := hv.list S.zh
    refine kGG ?_; clear kGG
    exact go (.inl rfl) h1 r1 hl
  · first | (refine oD hg ?_; clear hg; intro ds hl hg; try cases hg) | ((split at hg <;> cases hg); rename_i ds hl)
    refine gen ?_; intro GG kGG
    obtain ⟨a, vs, k, rfl, h1, r1, _⟩ := hv.tup S.zh
    refine kGG ?_; clear kGG
    exact go (.inr rfl) h1 r1 hl
  · cases hg
noncomputable def tupD : D → Option D
  | .list ds => if ds.length ≤ 1000 then some (.tup ds) else none
  | _ => none
theorem op_tup : Op1 c n (fun v => call (.type "tuple") [v]) tupD := by
  intro A z s σ v d r R S hv hg
  refine qgen ?_; intro QQ kQ
  unfold tupD at hg
  split at hg <;> try cases hg
  refine gen ?_; intro GG kGG
  first | (refine oD hg ?_; clear hg; intro ds hl hg; try cases hg) | ((split at hg <;> cases hg); rename_i ds hl)
  obtain ⟨a, vs, k, rfl, h1, r1⟩ := hv.list S.zh
  refine kGG ?_; clear kGG
  refine call_tuple_list (items := vs.toArray) ⟨_, h1, rfl, k, rfl⟩ (fun h' hk => ?_) (small_fits (by rw [List.size_toArray, r1.length]; exact hl))
  obtain ⟨z', p, e⟩ := EPost.got (tk := s.toks) (D := h'.objs.size) S (h' := h'.push { cls := .type "tuple", data := .seq vs.toArray }) (fun a o e => Heap.get?_push_of_some _ (hk _ _ e))
    (by
      cases e : s.heap.get? h'.objs.size with
      | none => rfl
      | some o => exact absurd (Heap.lt_size (hk _ _ e)) (Nat.lt_irrefl _)) (Heap.get?_push_size _ rfl)
  exact (kQ _ _ ⟨z', p, .tup e (r1.mono p.zz)⟩)
noncomputable def dictD : D → Option D
  | .dict ks ds => if ds.length ≤ 1000 then some (.dict ks ds) else none
  | _ => none
theorem op_dict (ok : c.Ok) : Op1 c n (fun v => call (.type "dict") [v]) dictD := by
  intro A z s σ v d r R S hv hg
  refine qgen ?_; intro QQ kQ
  unfold dictD at hg
  split at hg <;> try cases hg
  refine gen ?_; intro GG kGG
  first | (refine omD hg ?_; clear hg; intro ks ds hl hg; cases hg) | (refine omL hg ?_; clear hg; intro ks ds hl hg; cases hg) | (refine omB hg ?_; clear hg; intro ks ds hl hg; cases hg) | (refine omC hg ?_; clear hg; intro ks ds hl hg; cases hg) | (refine omK hg ?_; clear hg; intro ks ds hl hg; cases hg) | (refine omI hg ?_; clear hg; intro ks ds hl hg; cases hg) | (refine omT hg ?_; clear hg; intro ks ds hl hg; cases hg) | (refine omS hg ?_; clear hg; intro ks ds hl hg; cases hg) | ((split at hg <;> cases hg); rename_i ks ds hl)
  obtain ⟨a, kvs, rfl, h1, h2, rfl, h4⟩ := hv.dict S.zh
  have hlen := h4.length
  rw [List.length_map] at hlen
  refine kGG ?_; clear kGG
  refine kt_call_dict h2 h1 (small_fits (by lia)) fun h' hm hs => ?_
  refine gen ?_; intro GG kGG
  obtain ⟨o', ho', hd'⟩ := Heap.dictOf_iff.mp hm
  obtain ⟨z', p, e⟩ := EPost.got (tk := s.toks) S (h' := h') (fun b o e => by
    have := Heap.get?_push_of_some { cls := .type "dict", data := .dict #[] } e
    rw [← this]
    exact hs.2 b (Nat.ne_of_lt (Heap.lt_size e))) (get_size _) ho'
  refine kGG ?_; clear kGG
  exact (kQ _ _ ⟨z', p, .dict (Heap.dictOf_iff.mpr ⟨o', e, hd'⟩) (new_sys ok S (get_size _)) rfl rfl (h4.mono p.zz)⟩)
/-- max of two ints -/
noncomputable def xmax (f g : EX) : EX := fun ρ σ => match f ρ σ with
  | some (.int a, σ) => match g ρ σ with
    | some (.int b, σ) => some (.int (if b > a then b else a), σ)
    | _ => none
  | _ => none
theorem SX.max2 (ok : c.Ok) {x : Str} {e1 e2 : Expr} {p pos : Pos} {f g : EX} (gb : GBi c x (.builtin "max")) (h1 : SX c n sc nm e1 f) (h2 : SX c n sc nm e2 g)
    (hx : sc.names.lookup x = some .globalImplicit := by rfl) (hs : ∀ env, starEach [e1, e2] env = [(false, eval e1 env), (false, eval e2 env)] := by intro _; rfl) (hd : (x == ("__debug__" : Str)) = false := by decide +kernel) :
    SX c n sc nm (.Call (.Name x p) [e1, e2] [] pos) (xmax f g) := by
  intro A env z s ρ ad σ d σ' R hsc V hf
  refine qgen ?_; intro QQ kQ
  refine gen ?_; intro GG kGG
  unfold xmax at hf
  first | (refine omD hf ?_; clear hf; intro a σ₁ ha hf; try cases hf) | (refine omL hf ?_; clear hf; intro a σ₁ ha hf; try cases hf) | (refine omB hf ?_; clear hf; intro a σ₁ ha hf; try cases hf) | (refine omC hf ?_; clear hf; intro a σ₁ ha hf; try cases hf) | (refine omK hf ?_; clear hf; intro a σ₁ ha hf; try cases hf) | (refine omI hf ?_; clear hf; intro a σ₁ ha hf; try cases hf) | (refine omT hf ?_; clear hf; intro a σ₁ ha hf; try cases hf) | (refine omS hf ?_; clear hf; intro a σ₁ ha hf; try cases hf) | ((split at hf <;> try cases hf); rename_i a σ₁ ha)
  first | (refine oD hf ?_; clear hf; intro b hb hf; try cases hf) | ((split at hf <;> cases hf); rename_i b hb)
  refine kGG ?_; clear kGG
  refine Call_Name rfl (name_bi ok gb V (by rw [hsc]; exact hx) hd ?_)
  rw [hs env]
  refine Calls.callWith_builtin rfl (Calls.evalArgs_plain (Calls.spliced_cons (monoX (h1 R hsc V ha) fun v s₁ z₁ p r1 => Calls.spliced_cons (monoX (h2 R hsc (V.post p) hb) fun w s₂ z₂ p₂ r2 => Calls.spliced_nil ?_))))
  refine gen ?_; intro GG kGG
  obtain ⟨t1, rfl⟩ := r1.int_inv
  obtain ⟨t2, rfl⟩ := r2.int_inv
  refine kGG ?_; clear kGG
  refine max_two_ints R.1 fun h' tk hk => ?_
  refine (kQ _ _ ⟨z₂, (p.trans p₂).trans (.grown p₂.st hk), ?_⟩)
  split
  · exact .int _ _
  · exact .int _ _
end
end Mine
end
section
open PySem PySem.Calls PySem.W PyProof.Rows
namespace Mine
inductive Fl where
  | next | brk | cont
  | ret (d : D)
abbrev SF := Vars → Src → Option (Fl × Vars × Src)
theorem omN {β : Type} {y : β} {G : Prop} {o : Option (Fl × Vars × Src)} {K : Vars → Src → Option β} (h : (match o with | some (.next, ρ, σ) => K ρ σ | _ => none) = some y) (k : ∀ ρ σ, o = some (.next, ρ, σ) → K ρ σ = some y → G) : G := by
  rcases o with _ | ⟨fl, ρ, σ⟩
  · exact nos h
  · cases fl with
    | next => exact k ρ σ rfl h
    | _ => exact nos h
theorem omR {β : Type} {y : β} {G : Prop} {o : Option (Fl × Vars × Src)} {K : D → Src → Option β} (h : (match o with | some (.ret d, _, σ) => K d σ | _ => none) = some y) (k : ∀ d ρ σ, o = some (.ret d, ρ, σ) → K d σ = some y → G) : G := by
  rcases o with _ | ⟨fl, ρ, σ⟩
  · exact nos h
  · cases fl with
    | ret d => exact k d ρ σ rfl h
    | _ => exact nos h
inductive FlRep (c : Cx) (z : Heap) : Flow → Fl → Prop
  | next : FlRep c z .next .next
  | brk : FlRep c z .brk .brk
  | cont : FlRep c z .cont .cont
  | ret {v : Value} {d : D} : Rep c z v d → FlRep c z (.ret v) (.ret d)
noncomputable def isOwn : Cell → Bool
  | .own _ => true
  | .ob _ => true
  | _ => false
structure SSt (c : Cx) (g : Addr → Option Obj) (wr : List Str) (z : Heap) (env : Env) (s : Shared) (nm : List Str) (ρ : Vars) (ad : Nat → Addr) (σ : Src) : Prop where
  v : VSt c z env s nm ρ ad σ
  len : ρ.length ≤ nm.length
  keep : ∀ a o, g a = some o → s.heap.get? a = some o
  gF : ∀ a o, g a = some o → Fine c a
  gL : g env.locals = none
  zL : z.get? env.locals = none
  ns : ∃ m, s.heap.Ns env.locals m
  cel : ∀ x ∈ wr, ∃ a w, env.kindOf x = some .cell ∧ env.cells.lookup x = some a ∧ g a = none ∧ z.get? a = none ∧ s.heap.IsCell a w
  cx : ∀ x a, env.cells.lookup x = some a → ∃ w, s.heap.IsCell a w
  cd : ∀ x ∈ wr, ∀ y a, y ≠ x → env.cells.lookup x = some a → env.cells.lookup y ≠ some a
  own : ∀ i k, ρ[i]? = some k → isOwn k = true → g (ad i) = none ∧ ad i ≠ env.locals
  od : ∀ i j k k', ρ[i]? = some k → ρ[j]? = some k' → isOwn k = true → isOwn k' = true → ad i = ad j → i = j
structure SPost (c : Cx) (g : Addr → Option Obj) (z z' : Heap) : Prop where
  zz : Sub z z'
  zn : ∀ a, z'.get? a ≠ none → z.get? a ≠ none ∨ g a = none
theorem SPost.refl {c : Cx} {g : Addr → Option Obj} {z : Heap} : SPost c g z z := ⟨.refl _, fun _ h => .inl h⟩
theorem SPost.trans {c : Cx} {g : Addr → Option Obj} {z z' z'' : Heap} (x : SPost c g z z') (y : SPost c g z' z'') : SPost c g z z'' :=
  ⟨x.zz.trans y.zz, fun a h => (y.zn a h).elim (x.zn a) .inr⟩
section
variable {c : Cx} {g : Addr → Option Obj} {wr : List Str} {z z' : Heap} {env : Env} {s s' : Shared} {nm : List Str} {ρ : Vars} {ad : Nat → Addr} {σ σ' : Src}
theorem SSt.post (T : SSt c g wr z env s nm ρ ad σ) (p : EPost c z s z' s' σ') : SSt c g wr z' env s' nm ρ ad σ' where
  v := T.v.post p
  len := T.len
  keep := fun a o e => p.hk a o (T.gF a o e) (T.keep a o e)
  gF := T.gF
  gL := T.gL
  zL := by
    refine gen ?_; intro GG kGG
    obtain ⟨m, hm⟩ := T.ns
    obtain ⟨o, _, _, ho, _⟩ := hm
    refine kGG ?_; clear kGG
    exact off_keep p T.zL ho
  ns := by
    obtain ⟨m, hm⟩ := T.ns
    exact ⟨m, hm.at' fun o e => p.hk _ _ T.v.fL e⟩
  cel := fun x hx => by
    refine gen ?_; intro GG kGG
    obtain ⟨a, w, h1, h2, h3, h4, o, h5, h6⟩ := T.cel x hx
    refine kGG ?_; clear kGG
    exact ⟨a, w, h1, h2, h3, off_keep p h4 h5, o, p.hk _ _ (T.v.fC _ _ h2) h5, h6⟩
  cx := fun x a h => by
    obtain ⟨w, o, h1, h2⟩ := T.cx x a h
    exact ⟨w, o, p.hk _ _ (T.v.fC _ _ h) h1, h2⟩
  cd := T.cd
  own := T.own
  od := T.od
theorem SSt.spost (T : SSt c g wr z env s nm ρ ad σ) (p : EPost c z s z' s' σ') : SPost c g z z' :=
  ⟨p.zz, fun a h => (p.zn a h).imp id fun q => by
    cases e : g a with
    | none => rfl
    | some o => rw [T.keep a o e] at q; cases q⟩
/-- one address has changed that nothing frozen knows -/
theorem St0.change {z : Heap} {s : Shared} {σ : Src} (S : St0 c z s σ) {b : Addr} {h' : Heap} {tk : Nat} (hs : ∀ a o, a ≠ b → s.heap.get? a = some o → h'.get? a = some o) (zb : z.get? b = none) (fb : Fine c b) : St0 c z { s with heap := h', toks := tk } σ where
  zh := fun a o e => hs a o (fun q => by subst q; rw [zb] at e; cases e) (S.zh a o e)
  base := S.base
  gens := S.gens
  os := S.os
  src := fun a ha => ⟨(S.src a ha).off, by
    obtain ⟨t, u, e⟩ := (S.src a ha).at_
    exact ⟨t, u, e.at fun o e => hs _ _ (fun q => by subst q; exact fb.1 ha) e⟩⟩
  tabz := S.tabz
  tab := by
    obtain ⟨ps, e1, e2⟩ := S.tab
    exact ⟨ps, hs _ _ (fun q => fb.2 q.symm) e1, e2⟩
/-- the new content of a variable -/
structure NewCell (c : Cx) (g : Addr → Option Obj) (z : Heap) (env : Env) (h : Heap) (ρ : Vars) (ad : Nat → Addr) (i : Nat) (v : Value) (k : Cell) (a : Addr) : Prop where
  frz : ∀ d, k = .frz d → Rep c z v d
  ownd : ∀ d, k = .own d → v = .ref a ∧ z.get? a = none ∧ Fine c a ∧ (a == sysModules) = false ∧ ∃ o, h.get? a = some o ∧ ORep c z o d
  ob : ∀ ds, k = .ob ds → z.get? a = none ∧ Fine c a ∧ ObRep c z h a v ds
  gn : isOwn k = true → g a = none ∧ a ≠ env.locals
  ap : isOwn k = true → ∀ j k', j ≠ i → ρ[j]? = some k' → isOwn k' = true → ad j ≠ a
theorem NewCell.frozen {z : Heap} {h : Heap} {i : Nat} {v : Value} {d : D} {a : Addr} (r : Rep c z v d) : NewCell c g z env h ρ ad i v (.frz d) a :=
  { frz := fun _ e => (by cases e; exact r)
    ownd := fun _ e => (by cases e)
    ob := fun _ e => (by cases e)
    gn := fun e => (by cases e)
    ap := fun e => (by cases e) }
noncomputable def upd {α : Type} (f : Nat → α) (i : Nat) (a : α) : Nat → α := fun j => if j = i then a else f j
theorem orep_not_cell {o : Obj} {d : D} {w : Option Value} (h : ORep c z o d) (hc : o.data = .cell w) : False := by
  cases d <;> try exact h.elim
  · obtain ⟨vs, n, rfl, _⟩ := h; cases hc
  · obtain ⟨kvs, ⟨es, ep, h1, h2, _⟩, _⟩ := h; rw [h2] at hc; cases hc
/-- what the content of a variable needs of the heap, kept -/
theorem CellOk.hold {h h' : Heap} {a : Addr} {x : Str} {k : Cell} (H : CellOk c z env h a x k) (hv : ∀ v, Var env h x v → Var env h' x v) (ho : isOwn k = true → ∀ o, h.get? a = some o → h'.get? a = some o) : CellOk c z env h' a x k := by
  cases k with
  | un => trivial
  | frz d => obtain ⟨v, h1, h2⟩ := H; exact ⟨v, hv _ h1, h2⟩
  | own d => obtain ⟨h1, h2, h3, h4, o, h5, h6⟩ := H; exact ⟨hv _ h1, h2, h3, h4, o, ho rfl _ h5, h6⟩
  | ob ds => obtain ⟨v, h1, h2, h3, h4⟩ := H; exact ⟨v, hv _ h1, h2, h3, h4.keep (.refl _) fun o e => ho rfl _ e⟩
theorem CellOk.new {h h' : Heap} {i : Nat} {x : Str} {k : Cell} {v : Value} {a : Addr} (N : NewCell c g z env h ρ ad i v k a) (hv : Var env h' x v) (ho : isOwn k = true → ∀ o, h.get? a = some o → h'.get? a = some o) : CellOk c z env h' a x k := by
  cases k with
  | un => trivial
  | frz d => exact ⟨v, hv, N.frz d rfl⟩
  | own d => obtain ⟨rfl, h2, h3, h4, o, h5, h6⟩ := N.ownd d rfl; exact ⟨hv, h2, h3, h4, o, ho rfl _ h5, h6⟩
  | ob ds => obtain ⟨h2, h3, h4⟩ := N.ob ds rfl; exact ⟨v, hv, h2, h3, h4.keep (.refl _) fun o e => ho rfl _ e⟩
/-- an own object is no cell -/
theorem SSt.own_obj (T : SSt c g wr z env s nm ρ ad σ) {j : Nat} {x : Str} {k : Cell} (hx : nm[j]? = some x) (hk : ρ[j]? = some k) (ho : isOwn k = true) : ∃ o d, s.heap.get? (ad j) = some o ∧ ORep c z o d := by
  have := T.v.vars j x k hx hk
  cases k with
  | un => cases ho
  | frz d => cases ho
  | own d => obtain ⟨_, _, _, _, o, h5, h6⟩ := this; exact ⟨o, d, h5, h6⟩
  | ob ds => obtain ⟨v, h1, h2, h3, x, dx, od, v1, v2, v3, v5, d1, d2, d3, bs, d5, o, e1, e2, e3, e4, e5, e6, e7, e8⟩ := this; exact ⟨o, _, e7, e8⟩
theorem SSt.store (hnd : nm.Nodup) (T : SSt c g wr z env s nm ρ ad σ) {i : Nat} {x : Str} {v : Value} {k : Cell} {a : Addr} {A : Around} {E : Value → Shared → Prop} {M : Model} {Q : Unit → Shared → Prop} (hi : nm[i]? = some x)
    (hx : env.kindOf x = some .local ∨ x ∈ wr) (N : NewCell c g z env s.heap ρ ad i v k a) (h : ∀ s', SSt c g wr z env s' nm (ρ.set i k) (upd ad i a) σ → Q () s') : wpAny M A (storeName env x v) Q E s := by
  have hne : ∀ {j : Nat} {y : Str}, nm[j]? = some y → j ≠ i → y ≠ x := fun {j y} hy hj e => by
    subst e
    exact hj ((List.getElem?_inj (List.getElem?_eq_some_iff.mp hy).1 hnd).mp (hy.trans hi.symm))
  have hset : ∀ {j : Nat} {k' : Cell}, (ρ.set i k)[j]? = some k' → j ≠ i → ρ[j]? = some k' := fun {j k'} e hj => by
    rw [List.getElem?_set_ne (fun q => hj q.symm)] at e; exact e
  have hseti : ∀ {k' : Cell}, (ρ.set i k)[i]? = some k' → k' = k := fun {k'} e => by
    rw [List.getElem?_set] at e
    simp only [if_true] at e
    split at e <;> cases e
    rfl
  have own' : ∀ j k', (ρ.set i k)[j]? = some k' → isOwn k' = true → g (upd ad i a j) = none ∧ upd ad i a j ≠ env.locals := by
    intro j k' e ho
    by_cases hj : j = i
    · subst hj
      obtain rfl := hseti e
      unfold upd; rw [if_pos rfl]; exact N.gn ho
    · unfold upd; rw [if_neg hj]; exact T.own j k' (hset e hj) ho
  have od' : ∀ j j' k₁ k₂, (ρ.set i k)[j]? = some k₁ → (ρ.set i k)[j']? = some k₂ → isOwn k₁ = true → isOwn k₂ = true → upd ad i a j = upd ad i a j' → j = j' := by
    intro j j' k₁ k₂ e1 e2 o1 o2 e
    unfold upd at e
    by_cases h1 : j = i
    · by_cases h2 : j' = i
      · rw [h1, h2]
      · rw [if_pos h1, if_neg h2] at e
        subst h1
        obtain rfl := hseti e1
        exact absurd e.symm (N.ap o1 j' k₂ h2 (hset e2 h2) o2)
    · by_cases h2 : j' = i
      · rw [if_neg h1, if_pos h2] at e
        subst h2
        obtain rfl := hseti e2
        exact absurd e (N.ap o2 j k₁ h1 (hset e1 h1) o1)
      · rw [if_neg h1, if_neg h2] at e
        exact T.od j j' k₁ k₂ (hset e1 h1) (hset e2 h2) o1 o2 e
  rcases hx with hx | hx
  · obtain ⟨m, hm⟩ := T.ns
    refine wpAny_storeName_local hx hm (fun h' hn' hs' => h _ ?_) (by rw [T.v.kind]; rfl)
    have hk' : ∀ b o, b ≠ env.locals → s.heap.get? b = some o → h'.get? b = some o := fun b o hb e => by rw [hs'.2 b hb]; exact e
    have hvar : ∀ {y : Str} {u : Value}, y ≠ x → Var env s.heap y u → Var env h' y u := fun {y u} hy hu => by
      rcases hu with ⟨q1, m', q2, q3⟩ | ⟨q1, b, q2, o, q3, q4⟩
      · refine .inl ⟨q1, _, hn', ?_⟩
        show (if y = x then some v else m y) = some u
        rw [if_neg hy]
        obtain ⟨o1, es1, ep1, e1, d1, k1, f1⟩ := hm
        obtain ⟨o2, es2, ep2, e2, d2, k2, f2⟩ := q2
        rw [e1] at e2; cases e2
        rw [d1] at d2; cases d2
        rw [← f1, f2, q3]
      · refine .inr ⟨q1, b, q2, o, hk' b o (fun q => ?_) q3, q4⟩
        subst q
        obtain ⟨o1, es1, ep1, e1, d1, _⟩ := hm
        rw [e1] at q3; cases q3
        rw [d1] at q4; cases q4
    refine ⟨⟨T.v.st.change (tk := s.toks + 1) hk' T.zL T.v.fL, T.v.kind, T.v.glob, T.v.blt, T.v.fL, T.v.fC, fun j y k' hy e => ?_⟩, by rw [List.length_set]; exact T.len, fun b o e => hk' b o (fun q => by subst q; rw [T.gL] at e; cases e) (T.keep b o e), T.gF, T.gL, T.zL, ⟨_, hn'⟩,
      fun y hy => ?_, fun y b h => ?_, T.cd, own', od'⟩
    · by_cases hj : j = i
      · subst hj
        obtain rfl := hseti e
        obtain rfl := Option.some.inj (hy.symm.trans hi)
        have hva : Var env h' y v := .inl ⟨hx, _, hn', by show (if y = y then some v else _) = _; rw [if_pos rfl]⟩
        have : upd ad j a j = a := by unfold upd; rw [if_pos rfl]
        rw [this]
        exact CellOk.new N hva fun ho o e => hk' _ o (N.gn ho).2 e
      · have : upd ad i a j = ad j := by unfold upd; rw [if_neg hj]
        rw [this]
        exact (T.v.vars j y k' hy (hset e hj)).hold (fun u hu => hvar (hne hy hj) hu) fun ho o e' => hk' _ o (T.own j k' (hset e hj) ho).2 e'
    · obtain ⟨b, w, q1, q2, q3, q4, o, q5, q6⟩ := T.cel y hy
      refine ⟨b, w, q1, q2, q3, q4, o, hk' b o (fun q => ?_) q5, q6⟩
      refine gen ?_; intro GG kGG
      subst q
      obtain ⟨o1, es1, ep1, e1, d1, _⟩ := hm
      refine kGG ?_; clear kGG
      rw [e1] at q5; cases q5
      rw [d1] at q6; cases q6
    · obtain ⟨w, o, q5, q6⟩ := T.cx y b h
      refine ⟨w, o, hk' b o (fun q => ?_) q5, q6⟩
      refine gen ?_; intro GG kGG
      subst q
      obtain ⟨o1, es1, ep1, e1, d1, _⟩ := hm
      refine kGG ?_; clear kGG
      rw [e1] at q5; cases q5
      rw [d1] at q6; cases q6
  · obtain ⟨b, w, q1, q2, q3, q4, q5⟩ := T.cel x hx
    refine wpAny_storeName_cell T.v.kind q1 q2 q5 fun h' hc' hs' => h _ ?_
    have hk' : ∀ b' o, b' ≠ b → s.heap.get? b' = some o → h'.get? b' = some o := fun b' o hb e => by rw [hs'.2 b' hb]; exact e
    have hbL : b ≠ env.locals := fun q => by
      subst q
      obtain ⟨m, o1, es1, ep1, e1, d1, _⟩ := T.ns
      obtain ⟨o, q5, q6⟩ := q5
      rw [e1] at q5; cases q5
      rw [d1] at q6; cases q6
    have hvar : ∀ {y : Str} {u : Value}, y ≠ x → Var env s.heap y u → Var env h' y u := fun {y u} hy hu => by
      rcases hu with ⟨r1, m', r2, r3⟩ | ⟨r1, b', r2, o, r3, r4⟩
      · exact .inl ⟨r1, m', r2.at' fun o e => hk' _ o hbL.symm e, r3⟩
      · exact .inr ⟨r1, b', r2, o, hk' _ o (fun q => by subst q; exact T.cd x hx y _ hy q2 r2) r3, r4⟩
    have hnc : ∀ {a' : Addr} {o : Obj} {d : D}, s.heap.get? a' = some o → ORep c z o d → a' ≠ b := fun {a' o d} e1 e2 q => by
      subst q
      obtain ⟨o', q5, q6⟩ := q5
      rw [e1] at q5; cases q5
      exact orep_not_cell e2 q6
    have S' := T.v.st.change (tk := s.toks) hk' q4 (T.v.fC _ _ q2)
    refine ⟨⟨S', T.v.kind, T.v.glob, T.v.blt, T.v.fL, T.v.fC, fun j y k' hy e => ?_⟩, by rw [List.length_set]; exact T.len, fun b' o e => hk' b' o (fun q => by subst q; rw [q3] at e; cases e) (T.keep b' o e), T.gF, T.gL, T.zL, ?_, fun y hy => ?_, fun y b1 h => ?_, T.cd, own', od'⟩
    · by_cases hj : j = i
      · subst hj
        obtain rfl := hseti e
        obtain rfl := Option.some.inj (hy.symm.trans hi)
        have hva : Var env h' y v := .inr ⟨.inl q1, b, q2, hc'⟩
        have : upd ad j a j = a := by unfold upd; rw [if_pos rfl]
        rw [this]
        refine CellOk.new N hva fun ho o e => hk' _ o ?_ e
        cases k' with
        | un => cases ho
        | frz d => cases ho
        | own d => obtain ⟨_, _, _, _, o, h5, h6⟩ := N.ownd d rfl; exact hnc h5 h6
        | ob ds => obtain ⟨_, _, _, _, _, _, _, _, _, _, _, _, _, _, o, _, _, _, _, _, _, h7, h8⟩ := N.ob ds rfl; exact hnc h7 h8
      · have : upd ad i a j = ad j := by unfold upd; rw [if_neg hj]
        rw [this]
        refine (T.v.vars j y k' hy (hset e hj)).hold (fun u hu => hvar (hne hy hj) hu) fun ho o e' => hk' _ o ?_ e'
        obtain ⟨o, d, e1, e2⟩ := T.own_obj hy (hset e hj) ho
        exact hnc e1 e2
    · obtain ⟨m, hm⟩ := T.ns
      exact ⟨m, hm.at' fun o e => hk' _ o hbL.symm e⟩
    · obtain ⟨b', w', r1, r2, r3, r4, o, r5, r6⟩ := T.cel y hy
      by_cases hyx : y = x
      · subst hyx
        obtain rfl := Option.some.inj (q2.symm.trans r2)
        exact ⟨b, _, q1, q2, q3, q4, hc'⟩
      · exact ⟨b', w', r1, r2, r3, r4, o, hk' _ o (fun q => by subst q; exact T.cd x hx y _ hyx q2 r2) r5, r6⟩
    · by_cases hb : b1 = b
      · subst hb; exact ⟨_, hc'⟩
      · obtain ⟨w1, o, r5, r6⟩ := T.cx y b1 h
        exact ⟨w1, o, hk' _ o hb r5, r6⟩
end
end Mine
end
section
open PySem PySem.Calls PySem.W PyProof.Rows
namespace Mine
/-! ### what a right hand side gives a variable -/
noncomputable def CRes (c : Cx) (h0 : Heap) (z h : Heap) (v : Value) (k : Cell) (a : Addr) : Prop := match k with
  | .frz d => Rep c z v d
  | .own d => v = .ref a ∧ h0.get? a = none ∧ z.get? a = none ∧ Fine c a ∧ (a == sysModules) = false ∧ ∃ o, h.get? a = some o ∧ ORep c z o d
  | .ob ds => h0.get? a = none ∧ z.get? a = none ∧ Fine c a ∧ ObRep c z h a v ds
  | .un => False
abbrev CXf := Vars → Src → Option (Cell × Src)
noncomputable def SC (c : Cx) (n : Nat) (sc : Scope) (nm : List Str) (e : Expr) (f : CXf) : Prop :=
  ∀ ⦃A env z s ρ ad σ k σ'⦄, Room A n → env.scope = sc → VSt c z env s nm ρ ad σ → f ρ σ = some (k, σ') →
    wpAny (model c.prog c.w) A (eval e env) (fun v s' => ∃ z', EPost c z s z' s' σ' ∧ ∃ a, CRes c s.heap z' s'.heap v k a) no2 s
noncomputable def cfrz (f : EX) : CXf := fun ρ σ => match f ρ σ with
  | some (d, σ) => some (.frz d, σ)
  | none => none
noncomputable def cown (f : EX) : CXf := fun ρ σ => match f ρ σ with
  | some (d, σ) => some (.own d, σ)
  | none => none
/-- fresh lists and dicts -/
noncomputable def SFr (c : Cx) (n : Nat) (sc : Scope) (nm : List Str) (e : Expr) (f : EX) : Prop :=
  ∀ ⦃A env z s ρ ad σ d σ'⦄, Room A n → env.scope = sc → VSt c z env s nm ρ ad σ → f ρ σ = some (d, σ') →
    wpAny (model c.prog c.w) A (eval e env) (fun v s' => ∃ z', EPost c z s z' s' σ' ∧ ∃ a o, v = .ref a ∧ s.heap.get? a = none ∧ z'.get? a = none ∧ s'.heap.get? a = some o ∧ ORep c z' o d) no2 s
section
variable {c : Cx} {n : Nat} {sc : Scope} {nm : List Str} {wr : List Str}
theorem SX.toC {e : Expr} {f : EX} (h : SX c n sc nm e f) : SC c n sc nm e (cfrz f) := by
  intro A env z s ρ ad σ k σ' R hs V hf
  refine qgen ?_; intro QQ kQ
  unfold cfrz at hf
  first | (refine oD hf ?_; clear hf; intro d hd hf; try cases hf) | ((split at hf <;> cases hf); rename_i d hd)
  exact monoX (h R hs V hd) fun v s' z' p r => (kQ _ _ ⟨z', p, 0, r⟩)
theorem SFr.toC (ok : c.Ok) {e : Expr} {f : EX} (h : SFr c n sc nm e f) : SC c n sc nm e (cown f) := by
  intro A env z s ρ ad σ k σ' R hs V hf
  refine qgen ?_; intro QQ kQ
  unfold cown at hf
  first | (refine oD hf ?_; clear hf; intro d hd hf; try cases hf) | ((split at hf <;> cases hf); rename_i d hd)
  refine monoX (h R hs V hd) fun v s' z' p hmm => ?_
  refine gen ?_; intro GG kGG
  obtain ⟨a, o, e1, e2, e3, e4, e5⟩ := hmm
  refine kGG ?_; clear kGG
  exact (kQ _ _ ⟨z', p, a, e1, e2, e3, fine_new V.st e2, new_sys ok V.st e2, o, e4, e5⟩)
theorem z_none {z : Heap} {s : Shared} {σ : Src} (S : St0 c z s σ) {a : Addr} (h : s.heap.get? a = none) : z.get? a = none := by
  cases e : z.get? a with
  | none => rfl
  | some o => rw [S.zh _ _ e] at h; cases h
theorem SFr.list {es : List Expr} {pos : Pos} {g : LX} (h : SL c n sc nm es g) : SFr c n sc nm (.List es pos) (xlist g) := by
  intro A env z s ρ ad σ d σ' R hs V hf
  refine qgen ?_; intro QQ kQ
  refine gen ?_; intro GG kGG
  unfold xlist at hf
  first | (refine omD hf ?_; clear hf; intro ds σ₁ hds hf; try cases hf) | (refine omL hf ?_; clear hf; intro ds σ₁ hds hf; try cases hf) | (refine omB hf ?_; clear hf; intro ds σ₁ hds hf; try cases hf) | (refine omC hf ?_; clear hf; intro ds σ₁ hds hf; try cases hf) | (refine omK hf ?_; clear hf; intro ds σ₁ hds hf; try cases hf) | (refine omI hf ?_; clear hf; intro ds σ₁ hds hf; try cases hf) | (refine omT hf ?_; clear hf; intro ds σ₁ hds hf; try cases hf) | (refine omS hf ?_; clear hf; intro ds σ₁ hds hf; try cases hf) | ((split at hf <;> try cases hf); rename_i ds σ₁ hds)
  first | (refine oIf hf ?_; clear hf; intro hl hf; cases hf) | ((split at hf <;> cases hf); rename_i hl)
  refine kGG ?_; clear kGG
  refine wpAny_List (monoX (h R hs V hds) fun vs s₁ z₁ p r => ?_)
  refine ⟨small_fits (by rw [r.length]; exact hl), ?_⟩
  have hz := z_none p.st (get_size s₁.heap)
  refine (kQ _ _ ⟨z₁, p.trans (.grown (tk := s₁.toks) p.st fun a o e => Heap.get?_push_of_some _ e), s₁.heap.objs.size, _, rfl, ?_, hz, Heap.get?_push_size _ rfl, vs, 0, rfl, r⟩)
  cases e : s.heap.get? s₁.heap.objs.size with
  | none => rfl
  | some o => exact absurd (Heap.lt_size (p.hk _ _ (fine_new p.st (get_size _)) e)) (Nat.lt_irrefl _)
noncomputable def xd0 : EX := fun _ σ => some (.dict [] [], σ)
theorem SFr.dict0 {pos : Pos} : SFr c n sc nm (.Dict [] [] pos) xd0 := by
  intro A env z s ρ ad σ d σ' R hs V hf
  refine qgen ?_; intro QQ kQ
  cases hf
  refine wpAny_Dict_empty (kQ _ _ ⟨z, .grown (tk := s.toks) V.st fun a o e => Heap.get?_push_of_some _ e, s.heap.objs.size, _, rfl, get_size _, z_none V.st (get_size _), Heap.get?_push_size _ rfl, [], ?_, rfl, .nil⟩)
  exact ⟨#[], 0, ⟨rfl, rfl, rfl⟩, rfl, fun e he => by simp at he, .nil, .nil⟩
noncomputable def xd1 (f1 f2 : EX) : EX := fun ρ σ => match f1 ρ σ with
  | some (.int k, σ) => match f2 ρ σ with
    | some (d, σ) => some (.dict [k] [d], σ)
    | none => none
  | _ => none
theorem SFr.dict1 {k v : Expr} {pos : Pos} {f1 f2 : EX} (h1 : SX c n sc nm k f1) (h2 : SX c n sc nm v f2) : SFr c n sc nm (.Dict [some k] [v] pos) (xd1 f1 f2) := by
  intro A env z s ρ ad σ d σ' R hs V hf
  refine qgen ?_; intro QQ kQ
  refine gen ?_; intro GG kGG
  unfold xd1 at hf
  first | (refine omD hf ?_; clear hf; intro i σ₁ hi hf; try cases hf) | (refine omL hf ?_; clear hf; intro i σ₁ hi hf; try cases hf) | (refine omB hf ?_; clear hf; intro i σ₁ hi hf; try cases hf) | (refine omC hf ?_; clear hf; intro i σ₁ hi hf; try cases hf) | (refine omK hf ?_; clear hf; intro i σ₁ hi hf; try cases hf) | (refine omI hf ?_; clear hf; intro i σ₁ hi hf; try cases hf) | (refine omT hf ?_; clear hf; intro i σ₁ hi hf; try cases hf) | (refine omS hf ?_; clear hf; intro i σ₁ hi hf; try cases hf) | ((split at hf <;> try cases hf); rename_i i σ₁ hi)
  first | (refine oD hf ?_; clear hf; intro dv hdv hf; try cases hf) | ((split at hf <;> cases hf); rename_i dv hdv)
  refine kGG ?_; clear kGG
  refine wpAny_Dict_walk (knd := c.ik) rfl rfl (by simp) (by simp) ?_
  have p0 := EPost.grown (tk := s.toks) V.st (h' := s.heap.push { cls := .type "dict", data := .dict #[] }) fun a o e => Heap.get?_push_of_some _ e
  refine pairTrees_cons_walk (monoX (h1 R hs (V.post p0) hi) fun kv s₁ z₁ p r1 => ?_)
  refine monoX (h2 R hs (V.post (p0.trans p)) hdv) fun vv s₂ z₂ p₂ r2 => ?_
  refine pairTrees_nil_walk ?_
  obtain ⟨t, rfl⟩ := r1.int_inv
  have hF : Fine c s.heap.objs.size := fine_new V.st (get_size _)
  have hsz : (s.heap.push { cls := .type "dict", data := .dict #[] }).get? s.heap.objs.size = some { cls := .type "dict", data := .dict #[] } := Heap.get?_push_size _ rfl
  have h2' := p₂.hk _ _ hF (p.hk _ _ hF hsz)
  have hz2 : z₂.get? s.heap.objs.size = none := off_keep p₂ (off_keep p (z_none V.st (get_size _)) hsz) (p.hk _ _ hF hsz)
  refine ⟨[(i, vv)], ?_, ⟨_, #[], 0, h2', ⟨rfl, rfl, rfl⟩, rfl, fun e he => by simp at he, .nil, .nil⟩, fun h' hd' hs' => ?_⟩
  · exact ⟨isInt_self i t, rfl, trivial⟩
  · obtain ⟨o', ho', hd''⟩ := Heap.dictOf_iff.mp hd'
    have S' := p₂.st.change (h' := h') (tk := s₂.toks + [(Value.int i t, vv)].length) (fun a o ha e => by rw [hs'.2 a ha]; exact e) hz2 hF
    have P : EPost c z s z₂ { s₂ with heap := h', toks := s₂.toks + [(Value.int i t, vv)].length } σ' := by
      have q := (p0.trans p).trans p₂
      refine ⟨S', q.zz, q.zn, fun a o f e => ?_⟩
      have : a ≠ s.heap.objs.size := Nat.ne_of_lt (Heap.lt_size e)
      show h'.get? a = _
      rw [hs'.2 a this]; exact q.hk a o f e
    exact (kQ _ _ ⟨z₂, P, _, o', rfl, get_size _, hz2, ho', [(i, vv)], hd'', rfl, .cons r2 .nil⟩)
/-! ### statements -/
inductive SQ (c : Cx) (g : Addr → Option Obj) (wr : List Str) (z : Heap) (env : Env) (nm : List Str) (fl : Fl) (ρ' : Vars) (σ' : Src) (w : Flow) (s' : Shared) : Prop
  | mk (z' : Heap) (ad' : Nat → Addr) (sp : SPost c g z z') (T : SSt c g wr z' env s' nm ρ' ad' σ') (r : FlRep c z' w fl) : SQ c g wr z env nm fl ρ' σ' w s'
noncomputable def SS (c : Cx) (n : Nat) (sc : Scope) (nm wr : List Str) (st : Stmt) (f : SF) : Prop :=
  ∀ ⦃A env g z s ρ ad σ fl ρ' σ'⦄, Room A n → env.scope = sc → SSt c g wr z env s nm ρ ad σ → f ρ σ = some (fl, ρ', σ') →
    wpAny (model c.prog c.w) A (exec st env) (SQ c g wr z env nm fl ρ' σ') no2 s
noncomputable def SSs (c : Cx) (n : Nat) (sc : Scope) (nm wr : List Str) (st : List Stmt) (f : SF) : Prop :=
  ∀ ⦃A env g z s ρ ad σ fl ρ' σ'⦄, Room A n → env.scope = sc → SSt c g wr z env s nm ρ ad σ → f ρ σ = some (fl, ρ', σ') →
    wpAny (model c.prog c.w) A (execs st env) (SQ c g wr z env nm fl ρ' σ') no2 s
noncomputable def snil : SF := fun ρ σ => some (.next, ρ, σ)
noncomputable def sseq (f g : SF) : SF := fun ρ σ => match f ρ σ with
  | some (.next, ρ, σ) => g ρ σ
  | r => r
noncomputable def SSAt (c : Cx) (A : Around) (env : Env) (nm wr : List Str) (st : Stmt) (f : SF) : Prop :=
  ∀ ⦃g z s ρ ad σ fl ρ' σ'⦄, SSt c g wr z env s nm ρ ad σ → f ρ σ = some (fl, ρ', σ') →
    wpAny (model c.prog c.w) A (exec st env) (SQ c g wr z env nm fl ρ' σ') no2 s
noncomputable def SSsAt (c : Cx) (A : Around) (env : Env) (nm wr : List Str) (st : List Stmt) (f : SF) : Prop :=
  ∀ ⦃g z s ρ ad σ fl ρ' σ'⦄, SSt c g wr z env s nm ρ ad σ → f ρ σ = some (fl, ρ', σ') →
    wpAny (model c.prog c.w) A (execs st env) (SQ c g wr z env nm fl ρ' σ') no2 s
theorem SS.at {A : Around} {env : Env} {st : Stmt} {f : SF} (h : SS c n sc nm wr st f) (R : Room A n) (hs : env.scope = sc) : SSAt c A env nm wr st f := by
  intro g z s ρ ad σ fl ρ' σ' T hf
  exact h R hs T hf
theorem SSs.at {A : Around} {env : Env} {st : List Stmt} {f : SF} (h : SSs c n sc nm wr st f) (R : Room A n) (hs : env.scope = sc) : SSsAt c A env nm wr st f := by
  intro g z s ρ ad σ fl ρ' σ' T hf
  exact h R hs T hf
theorem SSsAt.cons {A : Around} {env : Env} {st : Stmt} {rest : List Stmt} {f h : SF} (h1 : SSAt c A env nm wr st f) (h2 : SSsAt c A env nm wr rest h) : SSsAt c A env nm wr (st :: rest) (sseq f h) := by
  intro g z s ρ ad σ fl ρ' σ' T hf
  refine qgen ?_; intro QQ kQ
  unfold sseq at hf
  cases hf1 : f ρ σ with
  | none => rw [hf1] at hf; cases hf
  | some y =>
    obtain ⟨fl₁, ρ₁, σ₁⟩ := y
    rw [hf1] at hf
    refine wpAny_execs_cons (wpAny_mono (h1 T hf1) (fun w s₁ hmm => ?_) fun _ _ x => x)
    obtain ⟨z₁, ad₁, p, T₁, r⟩ := hmm
    cases r with
    | next =>
      refine wpAny_mono (h2 T₁ hf) (fun w s₂ hmm => ?_) fun _ _ x => x
      refine gen ?_; intro GG kGG
      obtain ⟨z₂, ad₂, p₂, T₂, r₂⟩ := hmm
      refine kGG ?_; clear kGG
      exact (kQ _ _ ⟨z₂, ad₂, p.trans p₂, T₂, r₂⟩)
    | brk => cases hf; exact (kQ _ _ ⟨z₁, ad₁, p, T₁, .brk⟩)
    | cont => cases hf; exact (kQ _ _ ⟨z₁, ad₁, p, T₁, .cont⟩)
    | ret q => cases hf; exact (kQ _ _ ⟨z₁, ad₁, p, T₁, .ret q⟩)
theorem SSs.nil : SSs c n sc nm wr [] snil := by
  intro A env g z s ρ ad σ fl ρ' σ' R hs T hf
  refine qgen ?_; intro QQ kQ
  cases hf
  exact wpAny_execs_nil (kQ _ _ ⟨z, ad, .refl, T, .next⟩)
theorem SSs.cons {st : Stmt} {rest : List Stmt} {f h : SF} (h1 : SS c n sc nm wr st f) (h2 : SSs c n sc nm wr rest h) : SSs c n sc nm wr (st :: rest) (sseq f h) := by
  intro A env g z s ρ ad σ fl ρ' σ' R hs T hf
  exact SSsAt.cons (h1.at R hs) (h2.at R hs) T hf
theorem newCell {g : Addr → Option Obj} {z z' : Heap} {env : Env} {s s' : Shared} {ρ : Vars} {ad : Nat → Addr} {σ σ' : Src} {i : Nat} {v : Value} {k : Cell} {a : Addr} (T : SSt c g wr z env s nm ρ ad σ) (_p : EPost c z s z' s' σ')
    (r : CRes c s.heap z' s'.heap v k a) : NewCell c g z' env s'.heap ρ ad i v k a := by
  have gn : s.heap.get? a = none → g a = none ∧ a ≠ env.locals := fun h => by
    constructor
    · cases e : g a with
      | none => rfl
      | some o => rw [T.keep _ _ e] at h; cases h
    · intro q
      subst q
      obtain ⟨m, o, es, ep, e, _⟩ := T.ns
      rw [e] at h; cases h
  have ap : s.heap.get? a = none → ∀ j k', j ≠ i → ρ[j]? = some k' → isOwn k' = true → ad j ≠ a := fun h j k' _ hk ho q => by
    have hj : j < nm.length := Nat.lt_of_lt_of_le (List.getElem?_eq_some_iff.mp hk).1 T.len
    obtain ⟨o, d, e1, e2⟩ := T.own_obj (List.getElem?_eq_getElem hj) hk ho
    rw [q, h] at e1; cases e1
  cases k with
  | un => exact r.elim
  | frz d => exact NewCell.frozen r
  | own d =>
    refine gen ?_; intro GG kGG
    obtain ⟨rfl, h1, h2, h3, h4, h5⟩ := r
    refine kGG ?_; clear kGG
    exact { frz := fun _ e => (by cases e), ownd := fun d' e => (by cases e; exact ⟨rfl, h2, h3, h4, h5⟩), ob := fun _ e => (by cases e), gn := fun _ => gn h1, ap := fun _ => ap h1 }
  | ob ds =>
    obtain ⟨h1, h2, h3, h4⟩ := r
    exact { frz := fun _ e => (by cases e), ownd := fun d' e => (by cases e), ob := fun _ e => (by cases e; exact ⟨h2, h3, h4⟩), gn := fun _ => gn h1, ap := fun _ => ap h1 }
noncomputable def sset (i : Nat) (f : CXf) : SF := fun ρ σ => match f ρ σ with
  | some (k, σ) => some (.next, ρ.set i k, σ)
  | none => none
theorem SS.assign (hnd : nm.Nodup) {x : Str} {e : Expr} {p' pos : Pos} {i : Nat} {f : CXf} (h : SC c n sc nm e f) (hi : nm[i]? = some x) (hx : sc.names.lookup x = some .local ∨ x ∈ wr)
    (hsw : ∀ env, env.scope = sc → swapsWith e (some (.Name x p')) pos.line env = pure false := by intro _ _; rfl) : SS c n sc nm wr (.Assign [.Name x p'] e pos) (sset i f) := by
  intro A env g z s ρ ad σ fl ρ' σ' R hs T hf
  refine qgen ?_; intro QQ kQ
  unfold sset at hf
  first | (refine oD hf ?_; clear hf; intro k hk hf; try cases hf) | ((split at hf <;> cases hf); rename_i k hk)
  refine wpAny_Assign_Name (monoX (h R hs T.v hk) fun v s₁ z₁ p hmm => ?_) (hsw env hs)
  obtain ⟨a, r⟩ := hmm
  refine (T.post p).store hnd hi (by rw [Env.kindOf, hs]; exact hx) (newCell T p r) fun s' T' => ?_
  exact (kQ _ _ ⟨z₁, _, T.spost p, T', .next⟩)
noncomputable def sret (f : EX) : SF := fun ρ σ => match f ρ σ with
  | some (d, σ) => some (.ret d, ρ, σ)
  | none => none
theorem SS.ret {e : Expr} {pos : Pos} {f : EX} (h : SX c n sc nm e f) : SS c n sc nm wr (.Return (some e) pos) (sret f) := by
  intro A env g z s ρ ad σ fl ρ' σ' R hs T hf
  refine qgen ?_; intro QQ kQ
  unfold sret at hf
  first | (refine oD hf ?_; clear hf; intro d hd hf; try cases hf) | ((split at hf <;> cases hf); rename_i d hd)
  refine wpAny_Return_some (monoX (h R hs T.v hd) fun v s₁ z₁ p r => ?_)
  exact (kQ _ _ ⟨z₁, ad, T.spost p, T.post p, .ret r⟩)
noncomputable def sif (t : TX) (f g : SF) : SF := fun ρ σ => match t ρ σ with
  | some (true, σ) => f ρ σ
  | some (false, σ) => g ρ σ
  | none => none
theorem SS.ifs {t : Expr} {b o : List Stmt} {pos : Pos} {tt : TX} {fb fo : SF} (h : ST c n sc nm t tt) (h1 : SSs c n sc nm wr b fb) (h2 : SSs c n sc nm wr o fo) : SS c n sc nm wr (.If t b o pos) (sif tt fb fo) := by
  intro A env g z s ρ ad σ fl ρ' σ' R hs T hf
  refine qgen ?_; intro QQ kQ
  unfold sif at hf
  split at hf
  · rename_i σ₁ ht
    refine wpAny_If (wpAny_mono (h R hs T.v ht) (fun v s' hv => ?_) fun _ _ x => x)
    obtain ⟨rfl, z', p⟩ := hv
    rw [if_pos rfl]
    refine wpAny_mono (h1 R hs (T.post p) hf) (fun w s₂ hmm => ?_) fun _ _ x => x
    refine gen ?_; intro GG kGG
    obtain ⟨z₂, ad₂, p₂, T₂, r₂⟩ := hmm
    refine kGG ?_; clear kGG
    exact (kQ _ _ ⟨z₂, ad₂, (T.spost p).trans p₂, T₂, r₂⟩)
  · rename_i σ₁ ht
    refine wpAny_If (wpAny_mono (h R hs T.v ht) (fun v s' hv => ?_) fun _ _ x => x)
    obtain ⟨rfl, z', p⟩ := hv
    rw [if_neg (by simp)]
    refine wpAny_mono (h2 R hs (T.post p) hf) (fun w s₂ hmm => ?_) fun _ _ x => x
    refine gen ?_; intro GG kGG
    obtain ⟨z₂, ad₂, p₂, T₂, r₂⟩ := hmm
    refine kGG ?_; clear kGG
    exact (kQ _ _ ⟨z₂, ad₂, (T.spost p).trans p₂, T₂, r₂⟩)
  · cases hf
theorem SS.brk {pos : Pos} : SS c n sc nm wr (.Break pos) (fun ρ σ => some (.brk, ρ, σ)) := by
  intro A env g z s ρ ad σ fl ρ' σ' R hs T hf
  refine qgen ?_; intro QQ kQ
  cases hf
  exact wpAny_Break (kQ _ _ ⟨z, ad, .refl, T, .brk⟩)
theorem SS.cont {pos : Pos} : SS c n sc nm wr (.Continue pos) (fun ρ σ => some (.cont, ρ, σ)) := by
  intro A env g z s ρ ad σ fl ρ' σ' R hs T hf
  refine qgen ?_; intro QQ kQ
  cases hf
  exact wpAny_Continue (kQ _ _ ⟨z, ad, .refl, T, .cont⟩)
end
end Mine
end
section
open PySem PySem.Calls PySem.W PyProof.Rows
namespace Mine
section
variable {c : Cx} {n : Nat} {sc : Scope} {nm : List Str} {wr : List Str}
/-- an own object turns -/
theorem SSt.mutate {g : Addr → Option Obj} {z : Heap} {env : Env} {s : Shared} {ρ : Vars} {ad : Nat → Addr} {σ : Src} (T : SSt c g wr z env s nm ρ ad σ) {i : Nat} {d d' : D} (hk : ρ[i]? = some (.own d)) {h' : Heap} {tk : Nat} {o' : Obj}
    (hs : ∀ b o, b ≠ ad i → s.heap.get? b = some o → h'.get? b = some o) (ho : h'.get? (ad i) = some o') (hr : ORep c z o' d') : SSt c g wr z env { s with heap := h', toks := tk } nm (ρ.set i (.own d')) ad σ := by
  refine gen ?_; intro GG kGG
  have hi : i < nm.length := Nat.lt_of_lt_of_le (List.getElem?_eq_some_iff.mp hk).1 T.len
  have hni := List.getElem?_eq_getElem hi
  obtain ⟨q1, q2, q3, q4, oi, q5, q6⟩ := T.v.vars i _ _ hni hk
  obtain ⟨q7, q8⟩ := T.own i _ hk rfl
  have hset : ∀ {j : Nat} {k' : Cell}, (ρ.set i (.own d'))[j]? = some k' → j ≠ i → ρ[j]? = some k' := fun {j k'} e hj => by
    rw [List.getElem?_set_ne (fun q => hj q.symm)] at e; exact e
  have hseti : ∀ {k' : Cell}, (ρ.set i (.own d'))[i]? = some k' → k' = .own d' := fun {k'} e => by
    rw [List.getElem?_set] at e
    simp only [if_true] at e
    split at e <;> cases e
    rfl
  have hown : ∀ {j : Nat} {k' : Cell}, (ρ.set i (.own d'))[j]? = some k' → isOwn k' = true → ∃ k, ρ[j]? = some k ∧ isOwn k = true := fun {j k'} e ho => by
    by_cases hj : j = i
    · subst hj; exact ⟨_, hk, rfl⟩
    · exact ⟨_, hset e hj, ho⟩
  have hnc : ∀ {b : Addr} {w : Option Value}, s.heap.IsCell b w → b ≠ ad i := fun {b w} ⟨o, e1, e2⟩ q => by
    subst q
    rw [q5] at e1; cases e1
    exact orep_not_cell q6 e2
  have hvar : ∀ {y : Str} {u : Value}, Var env s.heap y u → Var env h' y u := fun {y u} hu => by
    rcases hu with ⟨r1, m', r2, r3⟩ | ⟨r1, b', r2, r3⟩
    · exact .inl ⟨r1, m', r2.at' fun o e => hs _ o q8.symm e, r3⟩
    · obtain ⟨o, r4, r5⟩ := id r3
      exact .inr ⟨r1, b', r2, o, hs _ _ (hnc r3) r4, r5⟩
  refine kGG ?_; clear kGG
  refine ⟨⟨T.v.st.change hs q2 q3, T.v.kind, T.v.glob, T.v.blt, T.v.fL, T.v.fC, fun j y k' hy e => ?_⟩, by rw [List.length_set]; exact T.len, fun b o e => hs b o (fun q => by subst q; rw [q7] at e; cases e) (T.keep b o e), T.gF, T.gL, T.zL, ?_, fun x hx => ?_, fun x b h => ?_, T.cd, ?_, ?_⟩
  · by_cases hj : j = i
    · subst hj
      obtain rfl := hseti e
      obtain rfl := Option.some.inj (hy.symm.trans hni)
      exact ⟨hvar q1, q2, q3, q4, o', ho, hr⟩
    · refine (T.v.vars j y k' hy (hset e hj)).hold (fun u hu => hvar hu) fun ho' o e' => hs _ o (fun q => hj (T.od j i _ _ (hset e hj) hk ho' rfl q)) e'
  · obtain ⟨m, hm⟩ := T.ns
    exact ⟨m, hm.at' fun o e => hs _ o q8.symm e⟩
  · obtain ⟨b', w', r1, r2, r3, r4, r5⟩ := T.cel x hx
    obtain ⟨o, r6, r7⟩ := id r5
    exact ⟨b', w', r1, r2, r3, r4, o, hs _ _ (hnc r5) r6, r7⟩
  · obtain ⟨w, r5⟩ := T.cx x b h
    obtain ⟨o, r6, r7⟩ := id r5
    exact ⟨w, o, hs _ _ (hnc r5) r6, r7⟩
  · intro j k' e ho'
    obtain ⟨k, e1, e2⟩ := hown e ho'
    exact T.own j k e1 e2
  · intro j j' k₁ k₂ e1 e2 o1 o2 e
    refine gen ?_; intro GG kGG
    obtain ⟨k3, e3, e4⟩ := hown e1 o1
    obtain ⟨k5, e5, e6⟩ := hown e2 o2
    refine kGG ?_; clear kGG
    exact T.od j j' k3 k5 e3 e5 e4 e6 e
theorem not_interactive {env : Env} (h : env.scope.kind = .function) : interactive env = false := by
  unfold interactive; rw [h]; rfl
/-! ### append -/
noncomputable def sappend (i : Nat) (f : EX) : SF := fun ρ σ => match ρ[i]? with
  | some (.own (.list ds)) => match f ρ σ with
    | some (d, σ) => if ds.length ≤ 1000 then some (.next, ρ.set i (.own (.list (ds ++ [d]))), σ) else none
    | none => none
  | _ => none
theorem SS.append {x : Str} {e : Expr} {p1 apos cpos epos : Pos} {i : Nat} {f : EX} (hi : nm[i]? = some x) (h : SX c n sc nm e f)
    (hd : (x == ("__debug__" : Str)) = false := by decide +kernel) (hn : (x == ("__classdict__" : Str)) = false := by decide +kernel)
    (hs1 : ∀ env, starEach [e] env = [(false, eval e env)] := by intro _; rfl) (hline : (apos.endLine == cpos.line) = true := by rfl) :
    SS c n sc nm wr (.Expr (.Call (.Attribute (.Name x p1) "append" apos) [e] [] cpos) epos) (sappend i f) := by
  intro A env g z s ρ ad σ fl ρ' σ' R hs T hf
  refine qgen ?_; intro QQ kQ
  unfold sappend at hf
  refine omOwn hf ?_; clear hf; intro ds hk hf
  refine gen ?_; intro GG kGG
  first | (refine omD hf ?_; clear hf; intro d σ₁ hd1 hf; try cases hf) | (refine omL hf ?_; clear hf; intro d σ₁ hd1 hf; try cases hf) | (refine omB hf ?_; clear hf; intro d σ₁ hd1 hf; try cases hf) | (refine omC hf ?_; clear hf; intro d σ₁ hd1 hf; try cases hf) | (refine omK hf ?_; clear hf; intro d σ₁ hd1 hf; try cases hf) | (refine omI hf ?_; clear hf; intro d σ₁ hd1 hf; try cases hf) | (refine omT hf ?_; clear hf; intro d σ₁ hd1 hf; try cases hf) | (refine omS hf ?_; clear hf; intro d σ₁ hd1 hf; try cases hf) | ((split at hf <;> try cases hf); rename_i d σ₁ hd1)
  first | (refine oIf hf ?_; clear hf; intro hl hf; cases hf) | ((split at hf <;> cases hf); rename_i hl)
  refine kGG ?_; clear kGG
  refine wpAny_Expr ?_ (not_interactive T.v.kind) rfl
  refine gen ?_; intro GG kGG
  obtain ⟨q1, q2, q3, q4, oi, q5, q6⟩ := T.v.vars i x _ hi hk
  obtain ⟨vs, k, rfl, r1⟩ := q6
  refine kGG ?_; clear kGG
  refine Call_method1 rfl (hs1 env) hline ?_
  refine wpAny_Name (load_var T.v.kind q1 hn ?_) hd
  refine ⟨"list", "list.append", F.plainAttrs_list, F.slot_list_append, F.type_list_append, ⟨_, q5, rfl⟩, fun a e => ⟨_, by cases e; exact q5, rfl⟩, ?_⟩
  refine P.append_list (monoX (h R hs T.v hd1) fun v s₁ z₁ p r => ?_)
  have q5' := p.hk _ _ q3 q5
  refine ⟨vs.toArray, k, small_fits (by rw [List.size_toArray, r1.length]; exact hl), q5', ?_⟩
  have q9 := IsL.update (f := fun xs => xs.push v) q5'
  refine (kQ _ _ ⟨z₁, ad, T.spost p, (T.post p).mutate hk (tk := s₁.toks) (h' := s₁.heap.update (ad i) (Obj.mapSeq fun xs => xs.push v)) (fun b o hb e => by rw [Heap.get?_update_other _ _ (Ne.symm hb)]; exact e) q9 ?_, .next⟩)
  exact ⟨vs ++ [v], k + 1, by simp, (r1.mono p.zz).append (.cons r .nil)⟩
/-! ### a dict's item -/
noncomputable def dput (ks : List Int) (ds : List D) (k : Int) (d : D) : List Int × List D :=
  if ks.contains k then (ks, (ks.zip ds).map fun p => if p.1 = k then d else p.2) else (ks ++ [k], ds ++ [d])
theorem rep_stored {z : Heap} {k : Int} {v : Value} {d : D} (r : Rep c z v d) : ∀ {kvs : List (Int × Value)} {ds : List D}, RepL c z (kvs.map (·.2)) ds →
    (dput (kvs.map (·.1)) ds k d).1 = (stored kvs k v).map (·.1) ∧ RepL c z ((stored kvs k v).map (·.2)) (dput (kvs.map (·.1)) ds k d).2 := by
  intro kvs ds q
  have any : (kvs.any fun kv => decide (kv.1 = k)) = (kvs.map (·.1)).contains k := by
    induction kvs generalizing ds with
    | nil => rfl
    | cons p kvs ih =>
      cases q with
      | cons q1 q2 =>
        rw [List.any_cons, ih q2, List.map_cons, List.contains_cons]
        congr 1
        by_cases h : p.1 = k
        · rw [h]; simp
        · rw [decide_eq_false h, beq_eq_false_iff_ne.mpr fun q => h q.symm]
  unfold stored dput
  rw [any]
  split
  · constructor
    · rw [List.map_map]; apply List.map_congr_left; intro p _; simp only [Function.comp]; split <;> rfl
    · clear any
      rename_i h; clear h
      induction kvs generalizing ds with
      | nil => cases q; exact .nil
      | cons p kvs ih =>
        cases q with
        | cons q1 q2 =>
          rw [List.map_cons, List.map_cons, List.map_cons, List.zip_cons_cons, List.map_cons]
          refine .cons ?_ (ih q2)
          dsimp only
          by_cases hp : p.1 = k
          · rw [if_pos hp, if_pos hp]; exact r
          · rw [if_neg hp, if_neg hp]; exact q1
  · exact ⟨by simp, by simpa using q.append (.cons r .nil)⟩
noncomputable def sput (i : Nat) (fk fv : EX) : SF := fun ρ σ => match fv ρ σ with
  | some (d, σ) => match fk ρ σ with
    | some (.int k, σ) => match ρ[i]? with
      | some (.own (.dict ks ds)) => if ds.length ≤ 1000 then some (.next, ρ.set i (.own (.dict (dput ks ds k d).1 (dput ks ds k d).2)), σ) else none
      | _ => none
    | _ => none
  | none => none
theorem SS.put {x : Str} {ek ev : Expr} {p1 p' pos : Pos} {i : Nat} {fk fv : EX} (hi : nm[i]? = some x) (hk1 : SX c n sc nm ek fk) (hv1 : SX c n sc nm ev fv)
    (hd : (x == ("__debug__" : Str)) = false := by decide +kernel) (hn : (x == ("__classdict__" : Str)) = false := by decide +kernel)
    (hsw : ∀ env, swapsWith ev (some (.Subscript (.Name x p1) ek p')) pos.line env = pure false := by intro _; rfl) :
    SS c n sc nm wr (.Assign [.Subscript (.Name x p1) ek p'] ev pos) (sput i fk fv) := by
  intro A env g z s ρ ad σ fl ρ' σ' R hs T hf
  refine qgen ?_; intro QQ kQ
  refine gen ?_; intro GG kGG
  unfold sput at hf
  first | (refine omD hf ?_; clear hf; intro d σ₁ hd1 hf; try cases hf) | (refine omL hf ?_; clear hf; intro d σ₁ hd1 hf; try cases hf) | (refine omB hf ?_; clear hf; intro d σ₁ hd1 hf; try cases hf) | (refine omC hf ?_; clear hf; intro d σ₁ hd1 hf; try cases hf) | (refine omK hf ?_; clear hf; intro d σ₁ hd1 hf; try cases hf) | (refine omI hf ?_; clear hf; intro d σ₁ hd1 hf; try cases hf) | (refine omT hf ?_; clear hf; intro d σ₁ hd1 hf; try cases hf) | (refine omS hf ?_; clear hf; intro d σ₁ hd1 hf; try cases hf) | ((split at hf <;> try cases hf); rename_i d σ₁ hd1)
  first | (refine omD hf ?_; clear hf; intro k σ₂ hd2 hf; try cases hf) | (refine omL hf ?_; clear hf; intro k σ₂ hd2 hf; try cases hf) | (refine omB hf ?_; clear hf; intro k σ₂ hd2 hf; try cases hf) | (refine omC hf ?_; clear hf; intro k σ₂ hd2 hf; try cases hf) | (refine omK hf ?_; clear hf; intro k σ₂ hd2 hf; try cases hf) | (refine omI hf ?_; clear hf; intro k σ₂ hd2 hf; try cases hf) | (refine omT hf ?_; clear hf; intro k σ₂ hd2 hf; try cases hf) | (refine omS hf ?_; clear hf; intro k σ₂ hd2 hf; try cases hf) | ((split at hf <;> try cases hf); rename_i k σ₂ hd2)
  first | (refine omD hf ?_; clear hf; intro ks ds hk hf; try cases hf) | (refine omL hf ?_; clear hf; intro ks ds hk hf; try cases hf) | (refine omB hf ?_; clear hf; intro ks ds hk hf; try cases hf) | (refine omC hf ?_; clear hf; intro ks ds hk hf; try cases hf) | (refine omK hf ?_; clear hf; intro ks ds hk hf; try cases hf) | (refine omI hf ?_; clear hf; intro ks ds hk hf; try cases hf) | (refine omT hf ?_; clear hf; intro ks ds hk hf; try cases hf) | (refine omS hf ?_; clear hf; intro ks ds hk hf; try cases hf) | ((split at hf <;> try cases hf); rename_i ks ds hk)
  first | (refine oIf hf ?_; clear hf; intro hl hf; cases hf) | ((split at hf <;> cases hf); rename_i hl)
  refine kGG ?_; clear kGG
  refine wpAny_Assign_Subscript (monoX (hv1 R hs T.v hd1) fun v s₁ z₁ p r => ?_) (hsw env)
  refine gen ?_; intro GG kGG
  have T₁ := T.post p
  obtain ⟨q1, q2, q3, q4, oi, q5, q6⟩ := T₁.v.vars i x _ hi hk
  refine kGG ?_; clear kGG
  refine wpAny_Name (load_var T₁.v.kind q1 hn ?_) hd
  refine monoX (hk1 R hs T₁.v hd2) fun kv s₂ z₂ p₂ rk => ?_
  refine gen ?_; intro GG kGG
  have T₂ := T₁.post p₂
  obtain ⟨t, rfl⟩ := rk.int_inv
  obtain ⟨kvs, h1, rfl, h3⟩ := q6
  have q5' := p₂.hk _ _ q3 q5
  have h3' := h3.mono p₂.zz
  have hlen := h3.length
  rw [List.length_map] at hlen
  refine kGG ?_; clear kGG
  refine wpAny_setItem_pairs (hsz := small_fits (by lia)) (isInt_self k t) (Heap.dictOf_iff.mpr ⟨oi, q5', h1⟩) fun h' hm hs' => ?_
  obtain ⟨o', ho', hd'⟩ := Heap.dictOf_iff.mp hm
  obtain ⟨e1, e2⟩ := rep_stored (k := k) (r.mono p₂.zz) h3'
  refine (kQ _ _ ⟨z₂, ad, (T.spost p).trans (T₁.spost p₂), T₂.mutate hk (tk := s₂.toks + 1) (fun b o hb e => by rw [hs'.2 b hb]; exact e) ho' ⟨_, hd', e1, e2⟩, .next⟩)
/-! ### the source -/
noncomputable def ssrc (i : Nat) (j : Nat) (f : EX) : SF := fun ρ σ => match f ρ σ with
  | some (.int a, σ) => match ρ[i]? with
    | some (.frz .src) => some (.next, ρ, if j = 0 then (a, σ.2) else (σ.1, a))
    | _ => none
  | _ => none
theorem SS.src {x : Str} {e : Expr} {p1 p' p'' pos : Pos} {k : Nat} {i : Nat} {j : Int} {f : EX} (hi : nm[i]? = some x) (hj : j = 0 ∨ j = 1) (h : SX c n sc nm e f)
    (hd : (x == ("__debug__" : Str)) = false := by decide +kernel) (hn : (x == ("__classdict__" : Str)) = false := by decide +kernel)
    (hsw : ∀ env, swapsWith e (some (.Subscript (.Name x p1) (.Constant (.int j) k p') p'')) pos.line env = pure false := by intro _; rfl) :
    SS c n sc nm wr (.Assign [.Subscript (.Name x p1) (.Constant (.int j) k p') p''] e pos) (ssrc i j.toNat f) := by
  intro A env g z s ρ ad σ fl ρ' σ' R hs T hf
  refine qgen ?_; intro QQ kQ
  refine gen ?_; intro GG kGG
  unfold ssrc at hf
  first | (refine omD hf ?_; clear hf; intro a σ₁ hd1 hf; try cases hf) | (refine omL hf ?_; clear hf; intro a σ₁ hd1 hf; try cases hf) | (refine omB hf ?_; clear hf; intro a σ₁ hd1 hf; try cases hf) | (refine omC hf ?_; clear hf; intro a σ₁ hd1 hf; try cases hf) | (refine omK hf ?_; clear hf; intro a σ₁ hd1 hf; try cases hf) | (refine omI hf ?_; clear hf; intro a σ₁ hd1 hf; try cases hf) | (refine omT hf ?_; clear hf; intro a σ₁ hd1 hf; try cases hf) | (refine omS hf ?_; clear hf; intro a σ₁ hd1 hf; try cases hf) | ((split at hf <;> try cases hf); rename_i a σ₁ hd1)
  first | (refine oIf hf ?_; clear hf; intro hk hf; cases hf) | ((split at hf <;> cases hf); rename_i hk)
  refine kGG ?_; clear kGG
  refine wpAny_Assign_Subscript (monoX (h R hs T.v hd1) fun v s₁ z₁ p r => ?_) (hsw env)
  refine gen ?_; intro GG kGG
  have T₁ := T.post p
  obtain ⟨t, rfl⟩ := r.int_inv
  obtain ⟨v, q1, q2⟩ := T₁.v.vars i x _ hi hk
  refine kGG ?_; clear kGG
  refine wpAny_Name (load_var T₁.v.kind q1 hn (wpAny_Constant_int ?_)) hd
  refine gen ?_; intro GG kGG
  obtain ⟨b, rfl, hq⟩ := q2.src_inv
  obtain ⟨t1, t2, hl⟩ := (T₁.v.st.src _ hq).at_
  have hzb := (T₁.v.st.src _ hq).off
  refine kGG ?_; clear kGG
  refine wpAny_setItem_list (s := { s₁ with toks := s₁.toks + 1 }) hl (by lia) (by lia) (by simp; lia) fun h' hl' hs' => ?_
  have hk' : ∀ b' o, b' ≠ b → s₁.heap.get? b' = some o → h'.get? b' = some o := fun b' o hb e => by rw [hs'.2 b' hb]; exact e
  have hFb : ∀ {a' : Addr}, Fine c a' → a' ≠ b := fun {a'} hF q => hF.1 (by rw [q]; exact hq)
  have hP : b ≠ c.P := fun q => by
    obtain ⟨ps, e1, _⟩ := T₁.v.st.tab
    obtain ⟨o, e2, e3, _⟩ := hl
    rw [q, e1] at e2; cases e2; cases e3
  refine (kQ _ _ ⟨z₁, ad, T.spost p, ⟨⟨⟨fun a' o e => hk' _ _ (fun q => by subst q; rw [hzb] at e; cases e) (T₁.v.st.zh _ _ e), T₁.v.st.base, T₁.v.st.gens, T₁.v.st.os, fun a' ha' => ?_, T₁.v.st.tabz, ?_⟩,
    T₁.v.kind, T₁.v.glob, T₁.v.blt, T₁.v.fL, T₁.v.fC, fun j' y k' hy e => ?_⟩, T₁.len, fun b' o e => hk' _ _ (hFb (T₁.gF _ _ e)) (T₁.keep _ _ e), T₁.gF, T₁.gL, T₁.zL, ?_, fun y hy => ?_, fun y b1 h => ?_, T₁.cd, T₁.own, T₁.od⟩, .next⟩)
  · rw [hq] at ha'; cases ha'
    refine ⟨hzb, ?_⟩
    rcases hj with rfl | rfl
    · exact ⟨t, t2, hl'⟩
    · exact ⟨t1, t, hl'⟩
  · obtain ⟨ps, e1, e2⟩ := T₁.v.st.tab
    exact ⟨ps, hk' _ _ hP.symm e1, e2⟩
  · have H := T₁.v.vars j' y k' hy e
    refine H.hold (fun u hu => hu.keep T₁.v.fL T₁.v.fC fun a' o hF e => hk' _ _ (hFb hF) e) fun ho o e' => hk' _ o ?_ e'
    cases k' with
    | un => cases ho
    | frz d => cases ho
    | own d => obtain ⟨_, _, h3, _⟩ := H; exact hFb h3
    | ob ds => obtain ⟨_, _, _, h3, _⟩ := H; exact hFb h3
  · obtain ⟨m, hm⟩ := T₁.ns
    exact ⟨m, hm.at' fun o e => hk' _ o (hFb T₁.v.fL) e⟩
  · obtain ⟨b', w', r1, r2, r3, r4, o, r5, r6⟩ := T₁.cel y hy
    exact ⟨b', w', r1, r2, r3, r4, o, hk' _ o (hFb (T₁.v.fC _ _ r2)) r5, r6⟩
  · obtain ⟨w1, o, r5, r6⟩ := T₁.cx y b1 h
    exact ⟨w1, o, hk' _ o (hFb (T₁.v.fC _ _ h)) r5, r6⟩
/-! ### y = x.pop(0) -/
noncomputable def spop (j i : Nat) : SF := fun ρ σ => match ρ[i]? with
  | some (.own (.list (d :: ds))) => if ds.length ≤ 900 then some (.next, (ρ.set i (.own (.list ds))).set j (.frz d), σ) else none
  | _ => none
theorem SS.pop (hnd : nm.Nodup) {x y : Str} {py' p1 apos cpos kp pos : Pos} {kk : Nat} {i j : Nat} (hi : nm[i]? = some x) (hj : nm[j]? = some y) (hij : i ≠ j) (hy : sc.names.lookup y = some .local ∨ y ∈ wr)
    (hd : (x == ("__debug__" : Str)) = false := by decide +kernel) (hn : (x == ("__classdict__" : Str)) = false := by decide +kernel) (hline : (apos.endLine == cpos.line) = true := by rfl) :
    SS c n sc nm wr (.Assign [.Name y py'] (.Call (.Attribute (.Name x p1) "pop" apos) [.Constant (.int 0) kk kp] [] cpos) pos) (spop j i) := by
  intro A env g z s ρ ad σ fl ρ' σ' R hs T hf
  refine qgen ?_; intro QQ kQ
  refine gen ?_; intro GG kGG
  unfold spop at hf
  first | (refine omD hf ?_; clear hf; intro d ds hk hf; try cases hf) | (refine omL hf ?_; clear hf; intro d ds hk hf; try cases hf) | (refine omB hf ?_; clear hf; intro d ds hk hf; try cases hf) | (refine omC hf ?_; clear hf; intro d ds hk hf; try cases hf) | (refine omK hf ?_; clear hf; intro d ds hk hf; try cases hf) | (refine omI hf ?_; clear hf; intro d ds hk hf; try cases hf) | (refine omT hf ?_; clear hf; intro d ds hk hf; try cases hf) | (refine omS hf ?_; clear hf; intro d ds hk hf; try cases hf) | ((split at hf <;> try cases hf); rename_i d ds hk)
  first | (refine oIf hf ?_; clear hf; intro hl hf; cases hf) | ((split at hf <;> cases hf); rename_i hl)
  obtain ⟨q1, q2, q3, q4, oi, q5, q6⟩ := T.v.vars i x _ hi hk
  obtain ⟨vs, k, rfl, r1⟩ := q6
  refine kGG ?_; clear kGG
  refine wpAny_Assign_Name (Call_method1 rfl rfl hline ?_) rfl
  refine wpAny_Name (load_var T.v.kind q1 hn ?_) hd
  refine ⟨"list", "list.pop", F.plainAttrs_list, F.slot_list_pop, F.type_list_pop, ⟨_, q5, rfl⟩, fun a e => ⟨_, by cases e; exact q5, rfl⟩, ?_⟩
  refine P.pop_at_list (wpAny_Constant_int ?_)
  cases r1 with
  | cons ra rb =>
    rename_i va vb
    have hlen := rb.length
    refine ⟨(va :: vb).toArray, k, 0, _, 0, va, small_fits (by rw [List.size_toArray, List.length_cons]; lia), rfl, q5, rfl, ?_, rfl, ?_⟩
    · unfold seqIndex?
      simp only [List.size_toArray, List.length_cons]
      simp
    · have q9 := IsL.update (f := fun xs => xs.eraseIdxIfInBounds 0) q5
      have T₁ := T.mutate hk (d' := .list ds) (tk := s.toks + 1) (h' := s.heap.update (ad i) (Obj.mapSeq fun xs => xs.eraseIdxIfInBounds 0)) (fun b o hb e => by rw [Heap.get?_update_other _ _ (Ne.symm hb)]; exact e) q9
        ⟨vb, k + 1, by
          have e1 : ((va :: vb).toArray.eraseIdxIfInBounds 0) = vb.toArray := by
            apply Array.toList_inj.mp
            simp [Array.eraseIdxIfInBounds]
          rw [e1]; simp, rb⟩
      refine T₁.store hnd hj (by rw [Env.kindOf, hs]; exact hy) (NewCell.frozen (a := 0) ra) fun s' T' => ?_
      exact (kQ _ _ ⟨z, _, .refl, T', .next⟩)
/-! ### x.get(k, d) -/
noncomputable def getD' (d k e : D) : Option D := match d, k with
  | .dict ks ds, .int k => some ((look ks ds k).getD e)
  | _, _ => none
noncomputable def xget (f fk fe : EX) : EX := fun ρ σ => match f ρ σ with
  | some (d, σ) => match fk ρ σ with
    | some (k, σ) => match fe ρ σ with
      | some (e, σ) => match getD' d k e with
        | some r => some (r, σ)
        | none => none
      | none => none
    | none => none
  | none => none
theorem look_none {z : Heap} : ∀ {kvs : List (Int × Value)} {ds : List D} {k : Int}, RepL c z (kvs.map (·.2)) ds → look (kvs.map (·.1)) ds k = none → valueAt kvs k = none
  | [], ds, k, r, h => rfl
  | (a, v) :: kvs, ds, k, r, h => by
    cases r with
    | cons r1 r2 =>
      unfold look at h
      rw [List.map_cons, List.zip_cons_cons, List.lookup_cons] at h
      unfold valueAt
      rw [List.find?_cons]
      by_cases hk : a = k
      · subst hk
        simp only [beq_self_eq_true] at h
        cases h
      · have h2 : (k == a) = false := beq_eq_false_iff_ne.mpr fun q => hk q.symm
        rw [h2] at h
        simp only [hk, decide_false]
        exact look_none r2 h
theorem SX.get {x : Str} {ek ee : Expr} {p1 apos cpos : Pos} {f fk fe : EX} (h0 : SB c n sc nm (.Name x p1) f) (hk1 : SX c n sc nm ek fk) (he1 : SX c n sc nm ee fe)
    (hs1 : ∀ env, starEach [ek, ee] env = [(false, eval ek env), (false, eval ee env)] := by intro _; rfl) (hline : (apos.endLine == cpos.line) = true := by rfl) :
    SX c n sc nm (.Call (.Attribute (.Name x p1) "get" apos) [ek, ee] [] cpos) (xget f fk fe) := by
  intro A env z s ρ ad σ d σ' R hs V hf
  refine gen ?_; intro GG kGG
  unfold xget at hf
  first | (refine omD hf ?_; clear hf; intro d0 σ₁ hd0 hf; try cases hf) | (refine omL hf ?_; clear hf; intro d0 σ₁ hd0 hf; try cases hf) | (refine omB hf ?_; clear hf; intro d0 σ₁ hd0 hf; try cases hf) | (refine omC hf ?_; clear hf; intro d0 σ₁ hd0 hf; try cases hf) | (refine omK hf ?_; clear hf; intro d0 σ₁ hd0 hf; try cases hf) | (refine omI hf ?_; clear hf; intro d0 σ₁ hd0 hf; try cases hf) | (refine omT hf ?_; clear hf; intro d0 σ₁ hd0 hf; try cases hf) | (refine omS hf ?_; clear hf; intro d0 σ₁ hd0 hf; try cases hf) | ((split at hf <;> try cases hf); rename_i d0 σ₁ hd0)
  first | (refine omD hf ?_; clear hf; intro dk σ₂ hdk hf; try cases hf) | (refine omL hf ?_; clear hf; intro dk σ₂ hdk hf; try cases hf) | (refine omB hf ?_; clear hf; intro dk σ₂ hdk hf; try cases hf) | (refine omC hf ?_; clear hf; intro dk σ₂ hdk hf; try cases hf) | (refine omK hf ?_; clear hf; intro dk σ₂ hdk hf; try cases hf) | (refine omI hf ?_; clear hf; intro dk σ₂ hdk hf; try cases hf) | (refine omT hf ?_; clear hf; intro dk σ₂ hdk hf; try cases hf) | (refine omS hf ?_; clear hf; intro dk σ₂ hdk hf; try cases hf) | ((split at hf <;> try cases hf); rename_i dk σ₂ hdk)
  first | (refine omD hf ?_; clear hf; intro de σ₃ hde hf; try cases hf) | (refine omL hf ?_; clear hf; intro de σ₃ hde hf; try cases hf) | (refine omB hf ?_; clear hf; intro de σ₃ hde hf; try cases hf) | (refine omC hf ?_; clear hf; intro de σ₃ hde hf; try cases hf) | (refine omK hf ?_; clear hf; intro de σ₃ hde hf; try cases hf) | (refine omI hf ?_; clear hf; intro de σ₃ hde hf; try cases hf) | (refine omT hf ?_; clear hf; intro de σ₃ hde hf; try cases hf) | (refine omS hf ?_; clear hf; intro de σ₃ hde hf; try cases hf) | ((split at hf <;> try cases hf); rename_i de σ₃ hde)
  first | (refine oIf hf ?_; clear hf; intro hr hf; cases hf) | ((split at hf <;> cases hf); rename_i hr)
  unfold getD' at hr
  first | (refine omD hr ?_; clear hr; intro ks ds k hr; cases hr) | (refine omL hr ?_; clear hr; intro ks ds k hr; cases hr) | (refine omB hr ?_; clear hr; intro ks ds k hr; cases hr) | (refine omC hr ?_; clear hr; intro ks ds k hr; cases hr) | (refine omK hr ?_; clear hr; intro ks ds k hr; cases hr) | (refine omI hr ?_; clear hr; intro ks ds k hr; cases hr) | (refine omT hr ?_; clear hr; intro ks ds k hr; cases hr) | (refine omS hr ?_; clear hr; intro ks ds k hr; cases hr) | ((split at hr <;> cases hr); rename_i ks ds k)
  refine kGG ?_; clear kGG
  refine Call_method2 rfl (hs1 env) hline (monoX (h0 R hs V hd0) fun v s₁ z₁ p r => ?_)
  refine gen ?_; intro GG kGG
  obtain ⟨a, kvs, rfl, h1, h2, rfl, h4⟩ := r.dict p.st.zh
  obtain ⟨o, ho, hdo⟩ := Heap.dictOf_iff.mp h1
  refine kGG ?_; clear kGG
  refine ⟨"dict", "dict.get", F.plainAttrs_dict, F.slot_dict_get, F.type_dict_get, h1.typeIs, fun a' e => ⟨o, by cases e; exact ho, ?_⟩, ?_⟩
  · obtain ⟨es, ep, hx, _⟩ := hdo; exact hx.2.1
  refine wpAny_dict_get2 (knd := c.ik) h2 (monoX (hk1 R hs (V.post p) hdk) fun kv s₂ z₂ p₂ rk => ?_)
  refine monoX (he1 R hs (V.post (p.trans p₂)) hde) fun ev s₃ z₃ p₃ re => ?_
  refine gen ?_; intro GG kGG
  obtain ⟨t, rfl⟩ := rk.int_inv
  have r3 := (r.post p₂).post p₃
  obtain ⟨a', kvs', e, h1', h2', e2, h4'⟩ := r3.dict p₃.st.zh
  cases e
  refine kGG ?_; clear kGG
  refine ⟨k, valueAt kvs', isInt_self k t, h1'.mapOf, z₃, (p.trans p₂).trans (p₃.trans (.toks p₃.st _)), ?_⟩
  rw [e2]
  cases e3 : look (kvs'.map (·.1)) ds k with
  | none => rw [look_none h4' e3]; exact re
  | some d1 =>
    obtain ⟨v1, e4, r4⟩ := look_valueAt h4' e3
    rw [e4]; exact r4
/-! ### what is own becomes data -/
noncomputable def frzC : Cell → Cell
  | .own d => .frz d
  | .ob ds => .frz (.body ds)
  | k => k
noncomputable def frzAt (ρ : Vars) (i : Nat) : Vars := match ρ[i]? with
  | some k => ρ.set i (frzC k)
  | none => ρ
end
end Mine
end
section
open PySem PySem.Calls PySem.W PyProof.Rows
namespace Mine
noncomputable def ownTypes : List String := ["enumerate", "zip", "dict_itemiterator", "dict_reverseitemiterator", "odict_iterator", "itertools.zip_longest", "itertools.pairwise"]
/-- an iterator over data -/
structure ItAt (c : Cx) (A : Around) (h0 z h : Heap) (I : Addr) (fp wt : List Addr) (P : Nat → Value → Prop) (St : Nat → Heap → Prop) (ds : List D) (Kp : Addr → Prop) : Prop where
  W : Walks c.prog c.w A I fp wt ds.length P St
  st : St 0 h
  item : ∀ i v, P i v → ∃ d, ds[i]? = some d ∧ Rep c z v d
  fresh : ∀ b ∈ wt, h0.get? b = none
  zoff : ∀ b ∈ wt, z.get? b = none
  kept : ∀ b ∈ fp, b ∉ wt → Kp b
  obj : ∀ k h, St k h → ∀ b ∈ wt, ∃ o, h.get? b = some o
  pl : ∀ k h, St k h → ∃ o T, h.get? I = some o ∧ o.cls = .type T ∧ ownTypes.contains T = false
abbrev IX := Vars → Src → Option (List D × Src)
noncomputable def SI (c : Cx) (n : Nat) (sc : Scope) (nm : List Str) (e : Expr) (f : IX) : Prop :=
  ∀ ⦃A env z s ρ ad σ ds σ'⦄, Room A n → env.scope = sc → VSt c z env s nm ρ ad σ → f ρ σ = some (ds, σ') →
    wpAny (model c.prog c.w) A (eval e env) (fun x s₁ => wpAny (model c.prog c.w) A (pyIter x) (fun it s₂ => ∃ z', EPost c z s z' s₂ σ' ∧ ∃ I fp wt P St, it = .ref I ∧ ItAt c A s.heap z' s₂.heap I fp wt P St ds (fun b => ∃ o, z'.get? b = some o)) no2 s₁) no2 s
/-- the same, where nothing turns beside: what a frame owns may be gone through -/
noncomputable def SIB (c : Cx) (n : Nat) (sc : Scope) (nm : List Str) (e : Expr) (f : IX) : Prop :=
  ∀ ⦃A env z s ρ ad σ ds σ'⦄, Room A n → env.scope = sc → VSt c z env s nm ρ ad σ → f ρ σ = some (ds, σ') →
    wpAny (model c.prog c.w) A (eval e env) (fun x s₁ => wpAny (model c.prog c.w) A (pyIter x) (fun it s₂ => ∃ z', EPost c z s z' s₂ σ' ∧ ∃ I fp wt P St, it = .ref I ∧ ItAt c A s.heap z' s₂.heap I fp wt P St ds (fun b => Fine c b ∧ ∃ o, s₂.heap.get? b = some o)) no2 s₁) no2 s
abbrev TG := D → Vars → Option Vars
noncomputable def STg (c : Cx) (n : Nat) (sc : Scope) (nm wr : List Str) (t : Expr) (tg : TG) : Prop :=
  ∀ ⦃A env g z s ρ ad σ v d ρ'⦄, Room A n → env.scope = sc → SSt c g wr z env s nm ρ ad σ → Rep c z v d → tg d ρ = some ρ' →
    wpAny (model c.prog c.w) A (assign t env v) (fun _ s' => ∃ z' ad', SPost c g z z' ∧ SSt c g wr z' env s' nm ρ' ad' σ) no2 s
section
variable {c : Cx} {n : Nat} {sc : Scope} {nm : List Str} {wr : List Str}
/-- what only the iterator knows has changed -/
theorem SSt.beside {g : Addr → Option Obj} {z : Heap} {env : Env} {s : Shared} {ρ : Vars} {ad : Nat → Addr} {σ : Src} (T : SSt c g wr z env s nm ρ ad σ) {B : Addr → Prop} {h' : Heap} {tk : Nat}
    (hk : ∀ a o, ¬ B a → s.heap.get? a = some o → h'.get? a = some o) (Bz : ∀ a, B a → z.get? a = none) (BF : ∀ a, B a → Fine c a) (BL : ¬ B env.locals) (Bo : ∀ i k, ρ[i]? = some k → isOwn k = true → ¬ B (ad i))
    (Bc : ∀ x a, env.cells.lookup x = some a → ¬ B a) {g' : Addr → Option Obj} (hg1 : ∀ a, ¬ B a → g' a = g a) (hg2 : ∀ a o, B a → g' a = some o → h'.get? a = some o) (Bq : ∀ a, B a → c.q ≠ some a) (BP : ¬ B c.P) :
    SSt c g' wr z env { s with heap := h', toks := tk } nm ρ ad σ := by
  have hvar : ∀ {y : Str} {u : Value}, Var env s.heap y u → Var env h' y u := fun {y u} hu => by
    rcases hu with ⟨r1, m', r2, r3⟩ | ⟨r1, b', r2, o, r4, r5⟩
    · exact .inl ⟨r1, m', r2.at' fun o e => hk _ o BL e, r3⟩
    · exact .inr ⟨r1, b', r2, o, hk _ _ (Bc _ _ r2) r4, r5⟩
  refine ⟨⟨⟨fun a o e => hk a o (fun q => by rw [Bz a q] at e; cases e) (T.v.st.zh a o e), T.v.st.base, T.v.st.gens, T.v.st.os, fun a ha => ⟨(T.v.st.src a ha).off, ?_⟩, T.v.st.tabz, ?_⟩, T.v.kind, T.v.glob, T.v.blt, T.v.fL, T.v.fC, fun j y k' hy e => ?_⟩,
    T.len, fun a o e => ?_, fun a o e => ?_, by rw [hg1 _ BL]; exact T.gL, T.zL, ?_, fun x hx => ?_, fun x b h => ?_, T.cd, fun i k e ho => ?_, T.od⟩
  · obtain ⟨t, u, e⟩ := (T.v.st.src a ha).at_
    exact ⟨t, u, e.at fun o e => hk _ _ (fun q => Bq a q ha) e⟩
  · obtain ⟨ps, e1, e2⟩ := T.v.st.tab
    exact ⟨ps, hk _ _ BP e1, e2⟩
  · exact (T.v.vars j y k' hy e).hold (fun u hu => hvar hu) fun ho o e' => hk _ o (Bo j k' e ho) e'
  · by_cases q : B a
    · exact hg2 a o q e
    · rw [hg1 a q] at e; exact hk a o q (T.keep a o e)
  · by_cases q : B a
    · exact BF a q
    · rw [hg1 a q] at e; exact T.gF a o e
  · obtain ⟨m, hm⟩ := T.ns
    exact ⟨m, hm.at' fun o e => hk _ o BL e⟩
  · obtain ⟨b', w', r1, r2, r3, r4, o, r5, r6⟩ := T.cel x hx
    exact ⟨b', w', r1, r2, by rw [hg1 _ (Bc _ _ r2)]; exact r3, r4, o, hk _ _ (Bc _ _ r2) r5, r6⟩
  · obtain ⟨w, o, r5, r6⟩ := T.cx x b h
    exact ⟨w, o, hk _ _ (Bc _ _ h) r5, r6⟩
  · obtain ⟨e1, e2⟩ := T.own i k e ho
    exact ⟨by rw [hg1 _ (Bo i k e ho)]; exact e1, e2⟩
/-- besides what is kept -/
theorem SSt.weaken {g g' : Addr → Option Obj} {z : Heap} {env : Env} {s : Shared} {ρ : Vars} {ad : Nat → Addr} {σ : Src} (T : SSt c g wr z env s nm ρ ad σ) (h1 : ∀ a o, g' a = some o → g a = some o) : SSt c g' wr z env s nm ρ ad σ := by
  have h2 : ∀ a, g a = none → g' a = none := fun a e => by
    cases e' : g' a with
    | none => rfl
    | some o => rw [h1 a o e'] at e; cases e
  exact ⟨T.v, T.len, fun a o e => T.keep a o (h1 a o e), fun a o e => T.gF a o (h1 a o e), h2 _ T.gL, T.zL, T.ns, fun x hx => let ⟨a, w, r1, r2, r3, r4⟩ := T.cel x hx; ⟨a, w, r1, r2, h2 _ r3, r4⟩, T.cx, T.cd,
    fun i k e ho => let ⟨e1, e2⟩ := T.own i k e ho; ⟨h2 _ e1, e2⟩, T.od⟩
/-! ### for -/
noncomputable def forL (tg : TG) (body : SF) : List D → SF
  | [], ρ, σ => some (.next, ρ, σ)
  | d :: ds, ρ, σ => match tg d ρ with
    | some ρ₁ => match body ρ₁ σ with
      | some (.next, ρ₂, σ₂) => forL tg body ds ρ₂ σ₂
      | some (.cont, ρ₂, σ₂) => forL tg body ds ρ₂ σ₂
      | some (.brk, ρ₂, σ₂) => some (.next, ρ₂, σ₂)
      | some (.ret d, ρ₂, σ₂) => some (.ret d, ρ₂, σ₂)
      | none => none
    | none => none
theorem forL_cons {tg : TG} {body : SF} {d : D} {ds : List D} {ρ : Vars} {σ : Src} : forL tg body (d :: ds) ρ σ = match tg d ρ with
    | some ρ₁ => match body ρ₁ σ with
      | some (.next, ρ₂, σ₂) => forL tg body ds ρ₂ σ₂
      | some (.cont, ρ₂, σ₂) => forL tg body ds ρ₂ σ₂
      | some (.brk, ρ₂, σ₂) => some (.next, ρ₂, σ₂)
      | some (.ret d, ρ₂, σ₂) => some (.ret d, ρ₂, σ₂)
      | none => none
    | none => none := rfl
noncomputable def sfor (fi : IX) (tg : TG) (body : SF) : SF := fun ρ σ => match fi ρ σ with
  | some (ds, σ) => forL tg body ds ρ σ
  | none => none
theorem letOwned {M : Model} {A : Around} {E : Value → Shared → Prop} {s : Shared} {target : Expr} {I : Addr} {v : Value} {Q : Unit → Shared → Prop} {o : Obj} {T : String} (ho : s.heap.get? I = some o) (hc : o.cls = .type T) (hT : ownTypes.contains T = false) (h : Q () s) :
    wpAny M A (letOwnedTupleGo target (.ref I) v) Q E s := by
  have go : wpAny M A (letOwnedTupleGo (.Tuple [] 0 default) (.ref I) v) Q E s := by
    unfold letOwnedTupleGo
    cases v with
    | ref a =>
      refine wpAny_bind (wpAny_load ho ?_)
      obtain ⟨cls, d, dt, sl⟩ := o
      simp only at hc
      subst hc
      have : ¬ (["enumerate", "zip", "dict_itemiterator", "dict_reverseitemiterator", "odict_iterator", "itertools.zip_longest", "itertools.pairwise"].contains T = true) := by
        intro q; have q' : ownTypes.contains T = true := q; rw [hT] at q'; cases q'
      cases dt with
      | fields vs =>
        dsimp only
        split
        · rename_i hq
          have := (Bool.and_eq_true_iff.mp hq).1
          contradiction
        · exact wpAny_pure h
      | _ => exact wpAny_pure h
    | _ => exact wpAny_pure h
  cases target with
  | Tuple es k p => exact go
  | List es p => exact go
  | _ => exact wpAny_pure h
/-- in one frame -/
inductive FInv (c : Cx) (g : Addr → Option Obj) (z z₂ : Heap) (wr : List Str) (env : Env) (nm : List Str) (wt : List Addr) (G : Heap → Addr → Option Obj) (St : Nat → Heap → Prop) (n : Nat) (run : Nat → SF) (y : Fl × Vars × Src) (m : Nat) (s' : Shared) : Prop
  | mk (k : Nat) (z' : Heap) (ρ₁ : Vars) (ad₁ : Nat → Addr) (σ₂ : Src) (sp : SPost c g z z') (hsub : Sub z₂ z') (hz : ∀ b ∈ wt, z'.get? b = none) (T : SSt c (G s'.heap) wr z' env s' nm ρ₁ ad₁ σ₂) (hst : St k s'.heap)
    (hk : k ≤ n) (hm : m = n - k) (hrun : run k ρ₁ σ₂ = some y) : FInv c g z z₂ wr env nm wt G St n run y m s'
inductive FBe (c : Cx) (g : Addr → Option Obj) (z z₂ : Heap) (wr : List Str) (env : Env) (nm : List Str) (wt : List Addr) (G : Heap → Addr → Option Obj) (St : Nat → Heap → Prop) (k : Nat) (s₅ : Shared) (z₅ : Heap) (ρ₅ : Vars) (ad₅ : Nat → Addr) (σ₅ : Src) : Prop
  | mk (a1 : SSt c (G s₅.heap) wr z₅ env s₅ nm ρ₅ ad₅ σ₅) (a2 : St k s₅.heap) (a3 : SPost c g z z₅) (a4 : Sub z₂ z₅) (a5 : ∀ b ∈ wt, z₅.get? b = none) : FBe c g z z₂ wr env nm wt G St k s₅ z₅ ρ₅ ad₅ σ₅
theorem SSAt.fors {A : Around} {env : Env} {t it : Expr} {b : List Stmt} {pos : Pos} {fi : IX} {tg : TG} {fb : SF} (R : Room A n) (hsc : env.scope = sc) (h1 : SI c n sc nm it fi) (h2 : STg c n sc nm wr t tg) (h3 : SSsAt c A env nm wr b fb)
    (hs : ∀ env x, foldedSetIterable it env x = pure x := by intro _ _; rfl) : SSAt c A env nm wr (.For t it b [] pos) (sfor fi tg fb) := by
  intro g z s ρ ad σ fl ρ' σ' T hf
  refine qgen ?_; intro QQ kQ
  unfold sfor at hf
  first | (refine omD hf ?_; clear hf; intro ds σ₁ hd hf; try cases hf) | (refine omL hf ?_; clear hf; intro ds σ₁ hd hf; try cases hf) | (refine omB hf ?_; clear hf; intro ds σ₁ hd hf; try cases hf) | (refine omC hf ?_; clear hf; intro ds σ₁ hd hf; try cases hf) | (refine omK hf ?_; clear hf; intro ds σ₁ hd hf; try cases hf) | (refine omI hf ?_; clear hf; intro ds σ₁ hd hf; try cases hf) | (refine omT hf ?_; clear hf; intro ds σ₁ hd hf; try cases hf) | (refine omS hf ?_; clear hf; intro ds σ₁ hd hf; try cases hf) | ((split at hf <;> try cases hf); rename_i ds σ₁ hd)
  refine wpAny_For ?_ (hs env)
  refine wpAny_mono (h1 R hsc T.v hd) (fun x s₁ hx => ?_) fun _ _ x => x.elim
  refine wpAny_mono hx (fun it' s₂ hit => ?_) fun _ _ x => x.elim
  refine gen ?_; intro GG kGG
  obtain ⟨z₂, p, I, fp, wt, P, St, rfl, K⟩ := hit
  have T₂ := T.post p
  have sp₂ := T.spost p
  refine kGG ?_; clear kGG
  -- what the iterator owns is known to nobody else
  have hold : ∀ {a : Addr} {o : Obj}, s.heap.get? a = some o → a ∉ wt := fun {a o} e q => by rw [K.fresh a q] at e; cases e
  have hBL : env.locals ∉ wt := by
    obtain ⟨m, o, es, ep, e, _⟩ := T.ns; exact hold e
  have hBc : ∀ x a, env.cells.lookup x = some a → a ∉ wt := fun x a e => by
    obtain ⟨w, o, e1, _⟩ := T.cx x a e; exact hold e1
  have hBq : ∀ a, a ∈ wt → c.q ≠ some a := fun a ha e => by
    obtain ⟨t, u, o, e1, _⟩ := (T.v.st.src a e).at_; exact hold e1 ha
  have hBP : c.P ∉ wt := by
    obtain ⟨ps, e1, _⟩ := T.v.st.tab; exact hold e1
  have hBF : ∀ a, a ∈ wt → Fine c a := fun a ha => ⟨hBq a ha, fun q => hBP (q ▸ ha)⟩
  have hg : ∀ a, a ∈ wt → g a = none := fun a ha => by
    cases e : g a with
    | none => rfl
    | some o => exact absurd ha (hold (T.keep a o e))
  let gx : Heap → Addr → Option Obj := fun h a => if a ∈ wt then h.get? a else g a
  have gx_in : ∀ h a, a ∈ wt → gx h a = h.get? a := fun h a ha => if_pos ha
  have gx_out : ∀ h a, a ∉ wt → gx h a = g a := fun h a ha => if_neg ha
  have gle : ∀ h a o, g a = some o → gx h a = some o := fun h a o e => by
    by_cases q : a ∈ wt
    · rw [hg a q] at e; cases e
    · rw [gx_out h a q]; exact e
  have out : ∀ {h : Heap} {z z' : Heap}, (∀ b ∈ wt, ∃ o, h.get? b = some o) → SPost c (gx h) z z' → SPost c g z z' := fun {h z z'} ho sp => ⟨sp.zz, fun a ha => (sp.zn a ha).imp id fun e => by
    by_cases q : a ∈ wt
    · exact hg a q
    · rw [gx_out h a q] at e; exact e⟩
  let Inv : Nat → Shared → Prop := FInv c g z z₂ wr env nm wt gx St ds.length (fun k => forL tg fb (ds.drop k)) (fl, ρ', σ')
  refine codeAny_forLoop_any Inv (fun m s₃ hI => ?_) ds.length ⟨0, z₂, ρ, ad, σ₁, sp₂, .refl _, K.zoff, ?_, K.st, Nat.zero_le _, by lia, by simpa using hf⟩
  · obtain ⟨k, z₃, ρ₁, ad₁, σ₂, sp, hsub, hz, T₃, hst, hk, rfl, hrun⟩ := hI
    replace hrun : forL tg fb (ds.drop k) ρ₁ σ₂ = some (fl, ρ', σ') := hrun
    have hob := K.obj k _ hst
    have hBo : ∀ i k', ρ₁[i]? = some k' → isOwn k' = true → ad₁ i ∉ wt := fun i k' e ho q => by
      obtain ⟨e1, _⟩ := T₃.own i k' e ho
      rw [gx_in _ _ q] at e1
      obtain ⟨o, e2⟩ := hob _ q
      rw [e2] at e1; cases e1
    by_cases hlt : k < ds.length
    · refine K.W.item k s₃ _ _ hlt hst fun v h' tk hP hst' hkeep => ?_
      obtain ⟨d, hd', rv⟩ := K.item k v hP
      have hdrop : ds.drop k = d :: ds.drop (k + 1) := by
        rw [List.drop_eq_getElem_cons hlt]
        congr 1
        exact Option.some.inj ((List.getElem?_eq_getElem hlt).symm.trans hd')
      rw [hdrop] at hrun
      rw [forL_cons] at hrun
      split at hrun <;> try cases hrun
      refine gen ?_; intro GG kGG
      rename_i ρ₂ htg
      have T₄ : SSt c (gx h') wr z₃ env { s₃ with heap := h', toks := tk } nm ρ₁ ad₁ σ₂ :=
        T₃.beside (B := fun a => a ∈ wt) (tk := tk) (fun a o ha e => hkeep a o ha e) hz hBF hBL hBo hBc (fun a ha => by rw [gx_out _ _ ha, gx_out _ _ ha]) (fun a o ha e => by rw [gx_in _ _ ha] at e; exact e) hBq hBP
      obtain ⟨oI, TI, hI1, hI2, hI3⟩ := K.pl _ _ hst'
      refine kGG ?_; clear kGG
      dsimp only
      refine letOwned (s := { s₃ with heap := h', toks := tk }) hI1 hI2 hI3 ?_
      refine wpAny_mono (h2 R hsc T₄ (rv.mono hsub) htg) (fun _ s₄ hmm => ?_) fun _ _ x => x.elim
      obtain ⟨z₄, ad₄, sp₄, T₅⟩ := hmm
      have hob' := K.obj _ _ hst'
      -- behind the turn
      have behind : ∀ {s₅ : Shared} {z₅ : Heap} {ρ₅ : Vars} {ad₅ : Nat → Addr} {σ₅ : Src}, SPost c (gx h') z₄ z₅ → SSt c (gx h') wr z₅ env s₅ nm ρ₅ ad₅ σ₅ →
          FBe c g z z₂ wr env nm wt gx St (k + 1) s₅ z₅ ρ₅ ad₅ σ₅ := by
        intro s₅ z₅ ρ₅ ad₅ σ₅ sp₅ T₆
        have same : ∀ b ∈ wt, s₅.heap.get? b = h'.get? b := fun b hb => by
          obtain ⟨o, e⟩ := hob' b hb
          rw [e]
          exact T₆.keep b o (by rw [gx_in _ _ hb]; exact e)
        have egx : gx s₅.heap = gx h' := by
          funext a
          by_cases q : a ∈ wt
          · rw [gx_in _ _ q, gx_in _ _ q, same a q]
          · rw [gx_out _ _ q, gx_out _ _ q]
        have hsub5 : Sub z₂ z₅ := hsub.trans (sp₄.zz.trans sp₅.zz)
        refine ⟨by rw [egx]; exact T₆, ?_, sp.trans ((out hob' sp₄).trans (out hob' sp₅)), hsub5, ?_⟩
        · refine K.W.frame _ _ _ hst' fun b hb o e => ?_
          by_cases q : b ∈ wt
          · rw [same b q]; exact e
          · obtain ⟨o', eo⟩ := K.kept b hb q
            have e1 := T₆.v.st.zh _ _ (hsub5 _ _ eo)
            have e2 := T₄.v.st.zh _ _ (hsub _ _ eo)
            have e3 : h'.get? b = some o' := e2
            rw [e] at e3; cases e3
            exact e1
        · intro b hb
          cases e : z₅.get? b with
          | none => rfl
          | some o =>
            exfalso
            obtain ⟨o', eo⟩ := hob' b hb
            rcases (sp₄.trans sp₅).zn b (by rw [e]; exact fun q => nomatch q) with q | q
            · exact q (hz b hb)
            · rw [gx_in _ _ hb, eo] at q; cases q
      cases hb : fb ρ₂ σ₂ with
      | none => rw [hb] at hrun; cases hrun
      | some y =>
        obtain ⟨fl₅, ρ₅, σ₅⟩ := y
        rw [hb] at hrun
        refine wpAny_mono (h3 T₅ hb) (fun w s₅ hmm => ?_) fun _ _ x => x.elim
        obtain ⟨z₅, ad₅, sp₅, T₆, r⟩ := hmm
        obtain ⟨a1, a2, a3, a4, a5⟩ := behind sp₅ T₆
        cases r with
        | next => exact ⟨_, Nat.sub_lt_sub_left hlt (Nat.lt_succ_self k), k + 1, z₅, ρ₅, ad₅, σ₅, a3, a4, a5, a1, a2, hlt, rfl, hrun⟩
        | cont => exact ⟨_, Nat.sub_lt_sub_left hlt (Nat.lt_succ_self k), k + 1, z₅, ρ₅, ad₅, σ₅, a3, a4, a5, a1, a2, hlt, rfl, hrun⟩
        | brk => cases hrun; exact (kQ _ _ ⟨z₅, ad₅, a3, a1.weaken (gle _), .next⟩)
        | ret r => cases hrun; exact (kQ _ _ ⟨z₅, ad₅, a3, a1.weaken (gle _), .ret r⟩)
    · have hke : k = ds.length := by lia
      subst hke
      refine K.W.done s₃ _ _ hst fun h' tk hkeep => ?_
      rw [List.drop_length] at hrun
      cases hrun
      refine wpAny_execs_nil ?_
      refine (kQ _ _ ⟨z₃, ad₁, sp, ?_, .next⟩)
      exact T₃.beside (B := fun a => a ∈ wt) (tk := tk) (fun a o ha e => hkeep a o ha e) hz hBF hBL hBo hBc (fun a ha => by rw [gx_out _ _ ha]) (fun a o ha e => by rw [hg a ha] at e; cases e) hBq hBP
  · refine T₂.beside (s := s₂) (B := fun a => a ∈ wt) (h' := s₂.heap) (tk := s₂.toks) (fun a o _ e => e) K.zoff hBF hBL (fun i k' e ho q => ?_) hBc (fun a ha => gx_out _ _ ha) (fun a o ha e => by rw [gx_in _ _ ha] at e; exact e) hBq hBP
    have hi : i < nm.length := Nat.lt_of_lt_of_le (List.getElem?_eq_some_iff.mp e).1 T.len
    obtain ⟨o, d, e1, _⟩ := T.own_obj (List.getElem?_eq_getElem hi) e ho
    exact hold e1 q
theorem SS.fors {t it : Expr} {b : List Stmt} {pos : Pos} {fi : IX} {tg : TG} {fb : SF} (h1 : SI c n sc nm it fi) (h2 : STg c n sc nm wr t tg) (h3 : SSs c n sc nm wr b fb)
    (hs : ∀ env x, foldedSetIterable it env x = pure x := by intro _ _; rfl) : SS c n sc nm wr (.For t it b [] pos) (sfor fi tg fb) := by
  intro A env g z s ρ ad σ fl ρ' σ' R hsc T hf
  exact SSAt.fors R hsc h1 h2 (h3.at R hsc) hs T hf
end
end Mine
end
section
open PySem PySem.Calls PySem.W PyProof.Rows
namespace Mine
section
variable {prog : Program} {w : World} {A : Around} {E : Value → Shared → Prop} {s : Shared}
theorem draw_list {it l : Addr} {items : Array Value} (hne : l ≠ it) : ∀ (n i : Nat) (s : Shared) (Q : List Value → Shared → Prop), s.heap.IsListIter it l i → s.heap.IsList l items → i + n ≤ items.size →
    (∀ h', h'.IsListIter it l (i + n) → Heap.SameBut it s.heap h' → Q ((items.toList.drop i).take n) { s with heap := h' }) → wpAny (model prog w) A (draw (.ref it) n) Q E s
  | 0, i, s, Q, hit, _, _, hQ => by
    show wpAny _ _ (pure []) Q E s
    exact wpAny_pure (by simpa using hQ s.heap hit (Heap.SameBut.refl ..))
  | n + 1, i, s, Q, hit, ht, hle, hQ => by
    have hlt : i < items.size := by lia
    show wpAny _ _ (pyNext (.ref it) >>= _) Q E s
    refine wpAny_bind (wpAny_pyNext_list_item hit ht (x := items[i]) (by simp [hlt]) fun h₁ hit₁ hs₁ => ?_)
    refine wpAny_bind (wpAny_holding (draw_list hne n (i + 1) _ _ hit₁ (ht.extBut hs₁.extBut hne) (by lia) fun h₂ hit₂ hs₂ => wpAny_pure ?_))
    have hd : items.toList.drop i = items[i] :: items.toList.drop (i + 1) := by simp [List.drop_eq_getElem_cons, hlt]
    have := hQ h₂ (by rw [show i + (n + 1) = i + 1 + n by lia]; exact hit₂) (hs₁.trans hs₂)
    rw [hd, List.take_succ_cons] at this
    exact this
theorem unpackItems_list {t : Addr} {items : Array Value} {Q : List Value → Shared → Prop} (hh : A.handled = none) (ht : s.heap.IsList t items)
    (hQ : ∀ h', Heap.ExtBut s.heap.objs.size s.heap h' → Q items.toList { s with heap := h' }) : wpAny (model prog w) A (unpackItems (.ref t) items.size none) Q E s := by
  have hlt : t ≠ s.heap.objs.size := by obtain ⟨o, ho, _⟩ := ht; exact Nat.ne_of_lt (Heap.lt_size ho)
  unfold unpackItems
  refine wpAny_bind ?_
  · unfold notIterableAtAll
    refine wpAny_bind (wpAny_specialOf ht.typeIs slot_list_iter.lookup ?_)
    refine wpAny_pure ?_
    simp only [Bool.false_eq_true, if_false]
    refine wpAny_bind (wpAny_holding (wpAny_pyIter_list ht ?_))
    have ht0 : (s.heap.push { cls := .type "list_iterator", data := .fields #[.ref t, .int 0 0] }).IsList t items := ht.at fun o e => Heap.get?_push_of_some _ e
    refine wpAny_bind (wpAny_holding (draw_list hlt items.size 0 _ _ ⟨_, Heap.get?_push_size _ rfl, rfl, rfl⟩ ht0 (by lia) fun h₁ hit₁ hs₁ => ?_))
    have hall : List.take items.size (List.drop 0 items.toList) = items.toList := by
      rw [List.drop_zero]; exact List.take_of_length_le (by simp)
    rw [hall]
    rw [if_neg (by simp)]
    have ht₁ : h₁.IsList t items := ht0.extBut hs₁.extBut hlt
    refine wpAny_bind (wpAny_holding (wpAny_pyNext_list_end hh hit₁ ht₁ (by simp) fun h₂ he₂ => ?_))
    simp only [Option.isSome_none, Bool.false_eq_true, if_false]
    refine wpAny_pure (hQ h₂ fun b o hb e => he₂ b o hb (hs₁.extBut b o hb (Heap.get?_push_of_some _ e)))
end
theorem grow_of_ext {h h' : Heap} (he : Heap.ExtBut h.objs.size h h') : ∀ a o, h.get? a = some o → h'.get? a = some o :=
  fun a o e => he a o (Nat.ne_of_lt (Heap.lt_size e)) e
/-- names to store into -/
inductive NamesAt (sc : Scope) (nm wr : List Str) : List Expr → List Nat → Prop
  | nil : NamesAt sc nm wr [] []
  | cons {x : Str} {p : Pos} {es : List Expr} {i : Nat} {is : List Nat} : nm[i]? = some x → (sc.names.lookup x = some .local ∨ x ∈ wr) → NamesAt sc nm wr es is → NamesAt sc nm wr (.Name x p :: es) (i :: is)
noncomputable def setAll (ρ : Vars) : List Nat → List D → Vars
  | i :: is, d :: ds => setAll (ρ.set i (.frz d)) is ds
  | _, _ => ρ
section
variable {c : Cx} {n : Nat} {sc : Scope} {nm : List Str} {wr : List Str}
theorem NamesAt.length {es : List Expr} {is : List Nat} (N : NamesAt sc nm wr es is) (env : Env) : (assignEach es env).length = is.length ∧ (assignEach es env).findIdx? (·.1) = none := by
  induction N with
  | nil => exact ⟨rfl, rfl⟩
  | cons _ _ _ ih =>
    constructor
    · show (_ :: assignEach _ env).length = _
      rw [List.length_cons, List.length_cons, ih.1]
    · show List.findIdx? (·.1) ((false, _) :: assignEach _ env) = none
      rw [List.findIdx?_cons]
      simp [ih.2]
theorem assign_name {A : Around} {env : Env} {x : Str} {p : Pos} {v : Value} {Q : Unit → Shared → Prop} {E : Value → Shared → Prop} {s : Shared} {M : Model} (h : wpAny M A (storeName env x v) Q E s) : wpAny M A (assign (.Name x p) env v) Q E s := PyProof.Rows.assign_Name h
theorem assign_names (hnd : nm.Nodup) {es : List Expr} {is : List Nat} (N : NamesAt sc nm wr es is) : ∀ {A : Around} {env : Env} {g : Addr → Option Obj} {z : Heap} {s : Shared} {ρ : Vars} {ad : Nat → Addr} {σ : Src} {vs : List Value} {ds : List D} {M : Model},
    env.scope = sc → SSt c g wr z env s nm ρ ad σ → RepL c z vs ds → ds.length = is.length →
    wpAny M A (assignInOrder ((assignEach es env).map (·.2)) vs) (fun _ s' => ∃ ad', SSt c g wr z env s' nm (setAll ρ is ds) ad' σ) no2 s := by
  induction N with
  | nil =>
    intro A env g z s ρ ad σ vs ds M hs T r hl
    cases ds with
    | nil => cases r; exact wpAny_pure ⟨ad, T⟩
    | cons d ds => cases hl
  | cons hi hx N ih =>
    intro A env g z s ρ ad σ vs ds M hs T r hl
    cases r with
    | nil => cases hl
    | cons r1 r2 =>
      rename_i x p es i is v vs d ds
      show wpAny M A (do holding vs (assign (.Name x p) env v); assignInOrder ((assignEach es env).map (·.2)) vs) _ _ s
      refine wpAny_bind (wpAny_holding (assign_name (T.store hnd hi (by rw [Env.kindOf, hs]; exact hx) (NewCell.frozen (a := 0) r1) fun s' T' => ?_)))
      exact ih hs T' r2 (by simpa using hl)
noncomputable def tname (i : Nat) : TG := fun d ρ => some (ρ.set i (.frz d))
theorem STg.name (hnd : nm.Nodup) {x : Str} {p : Pos} {i : Nat} (hi : nm[i]? = some x) (hx : sc.names.lookup x = some .local ∨ x ∈ wr) : STg c n sc nm wr (.Name x p) (tname i) := by
  intro A env g z s ρ ad σ v d ρ' R hs T r hf
  refine qgen ?_; intro QQ kQ
  cases hf
  exact assign_name (T.store hnd hi (by rw [Env.kindOf, hs]; exact hx) (NewCell.frozen (a := 0) r) fun s' T' => (kQ _ _ ⟨z, _, .refl, T'⟩))
noncomputable def ttup (is : List Nat) : TG := fun d ρ => match d with
  | .tup ds => if ds.length = is.length then some (setAll ρ is ds) else none
  | .list ds => if ds.length = is.length then some (setAll ρ is ds) else none
  | _ => none
theorem STg.tup (hnd : nm.Nodup) {es : List Expr} {is : List Nat} {k : Nat} {p : Pos} (N : NamesAt sc nm wr es is) : STg c n sc nm wr (.Tuple es k p) (ttup is) := by
  intro A env g z s ρ ad σ v d ρ' R hs T r hf
  refine qgen ?_; intro QQ kQ
  obtain ⟨l1, l2⟩ := N.length env
  unfold ttup at hf
  split at hf
  · first | (refine oD hf ?_; clear hf; intro ds hl hf; try cases hf) | ((split at hf <;> cases hf); rename_i ds hl)
    refine gen ?_; intro GG kGG
    obtain ⟨a, vs, m, rfl, h1, r1⟩ := r.tup_inv
    have hlen := r1.length
    refine kGG ?_; clear kGG
    refine assign_Tuple_tuple (items := vs.toArray) R.1 ⟨_, T.v.st.zh _ _ h1, rfl, m, rfl⟩ (by rw [l1, List.size_toArray]; lia) l2 fun h' he => ?_
    have p := EPost.grown (tk := s.toks) T.v.st (grow_of_ext he)
    refine wpAny_mono (assign_names hnd N hs (T.post p) r1 hl) (fun _ s' ⟨ad', T'⟩ => (kQ _ _ ⟨z, ad', .refl, T'⟩)) fun _ _ x => x
  · first | (refine oD hf ?_; clear hf; intro ds hl hf; try cases hf) | ((split at hf <;> cases hf); rename_i ds hl)
    refine gen ?_; intro GG kGG
    obtain ⟨a, vs, m, rfl, h1, r1⟩ := r.list_inv
    have hlen := r1.length
    refine kGG ?_; clear kGG
    rw [assign_Tuple]
    refine wpAny_bind (wpAny_standAt ?_)
    unfold unpack
    rw [show (assignEach es env).length = vs.toArray.size by rw [l1, List.size_toArray]; lia, l2]
    refine wpAny_bind (wpAny_holding (unpackItems_list R.1 ⟨_, T.v.st.zh _ _ h1, rfl, m, rfl⟩ fun h' he => ?_))
    have p := EPost.grown (tk := s.toks) T.v.st (grow_of_ext he)
    refine wpAny_mono (assign_names hnd N hs (T.post p) r1 hl) (fun _ s' ⟨ad', T'⟩ => (kQ _ _ ⟨z, ad', .refl, T'⟩)) fun _ _ x => x
  · cases hf
/-- lines, word, goals = e -/
noncomputable def sunp (is : List Nat) (f : EX) : SF := fun ρ σ => match f ρ σ with
  | some (d, σ) => match ttup is d ρ with
    | some ρ' => some (.next, ρ', σ)
    | none => none
  | none => none
theorem SS.unp (hnd : nm.Nodup) {es : List Expr} {is : List Nat} {k : Nat} {tp pos : Pos} {e : Expr} {f : EX} (N : NamesAt sc nm wr es is) (h : SX c n sc nm e f)
    (hs1 : ∀ env, swapsWithSole [.Tuple es k tp] e pos.line env = pure false := by intro _; rfl) (hw : ∀ env, env.scope = sc → swappedStores [.Tuple es k tp] e env = pure none := by intro _ _; rfl) :
    SS c n sc nm wr (.Assign [.Tuple es k tp] e pos) (sunp is f) := by
  intro A env g z s ρ ad σ fl ρ' σ' R hs T hf
  refine qgen ?_; intro QQ kQ
  refine gen ?_; intro GG kGG
  unfold sunp at hf
  first | (refine omD hf ?_; clear hf; intro d σ₁ hd hf; try cases hf) | (refine omL hf ?_; clear hf; intro d σ₁ hd hf; try cases hf) | (refine omB hf ?_; clear hf; intro d σ₁ hd hf; try cases hf) | (refine omC hf ?_; clear hf; intro d σ₁ hd hf; try cases hf) | (refine omK hf ?_; clear hf; intro d σ₁ hd hf; try cases hf) | (refine omI hf ?_; clear hf; intro d σ₁ hd hf; try cases hf) | (refine omT hf ?_; clear hf; intro d σ₁ hd hf; try cases hf) | (refine omS hf ?_; clear hf; intro d σ₁ hd hf; try cases hf) | ((split at hf <;> try cases hf); rename_i d σ₁ hd)
  first | (refine oIf hf ?_; clear hf; intro htg hf; cases hf) | ((split at hf <;> cases hf); rename_i htg)
  refine kGG ?_; clear kGG
  refine wpAny_Assign_stores (monoX (h R hs T.v hd) fun v s₁ z₁ p r => ?_) (hs1 env) (hw env hs)
  have T₁ := T.post p
  have q := STg.tup (c := c) (n := n) (k := k) (p := tp) hnd N R hs T₁ r htg
  refine wpAny_mono q (fun _ s' hmm => by obtain ⟨z', ad', sp, T'⟩ := hmm; exact (kQ _ _ ⟨z', ad', (T.spost p).trans sp, T', .next⟩)) fun _ _ x => x
/-! ### what can be gone through -/
theorem SI.toB {e : Expr} {f : IX} (h : SI c n sc nm e f) : SIB c n sc nm e f := by
  intro A env z s ρ ad σ ds σ' R hs V hf
  refine wpAny_mono (h R hs V hf) (fun x s₁ hx => wpAny_mono hx (fun it s₂ hit => ?_) fun _ _ x => x) fun _ _ x => x
  refine gen ?_; intro GG kGG
  obtain ⟨z', p, I, fp, wt, P, St, e, K⟩ := hit
  refine kGG ?_; clear kGG
  exact ⟨z', p, I, fp, wt, P, St, e, ⟨K.W, K.st, K.item, K.fresh, K.zoff, fun b hb hw => by
    obtain ⟨o, ho⟩ := K.kept b hb hw
    exact ⟨p.st.fine (by rw [ho]; exact fun q => nomatch q), o, p.st.zh _ _ ho⟩, K.obj, K.pl⟩⟩
theorem old_none {z z' : Heap} {s s' : Shared} {σ σ' : Src} (S : St0 c z' s' σ) (p : EPost c z s z' s' σ') {a : Addr} (h : s'.heap.get? a = none) : s.heap.get? a = none := by
  cases e : s.heap.get? a with
  | none => rfl
  | some o => rw [p.hk _ _ (fine_new S h) e] at h; cases h
theorem it_list {A : Around} {n : Nat} {z z₁ : Heap} {s s₁ : Shared} {σ σ₁ : Src} {a : Addr} {vs : List Value} {k : Nat} {ds : List D} {Kp : Heap → Addr → Prop} (R : Room A n) (_S : St0 c z s σ) (p : EPost c z s z₁ s₁ σ₁)
    (h1 : s₁.heap.get? a = some { cls := .type "list", data := .seq vs.toArray k }) (r : RepL c z₁ vs ds) (hK : ∀ h' : Heap, Sub s₁.heap h' → Kp h' a) :
    wpAny (model c.prog c.w) A (pyIter (.ref a)) (fun it s₂ => ∃ z', EPost c z s z' s₂ σ₁ ∧ ∃ I fp wt P St, it = .ref I ∧ ItAt c A s.heap z' s₂.heap I fp wt P St ds (Kp s₂.heap) ∧ z' = z₁) no2 s₁ := by
  have hl : s₁.heap.IsList a vs.toArray := ⟨_, h1, rfl, k, rfl⟩
  have hne : a ≠ s₁.heap.objs.size := Nat.ne_of_lt (Heap.lt_size h1)
  have hsub : Sub s₁.heap (s₁.heap.push { cls := .type "list_iterator", data := .fields #[.ref a, .int 0 0] }) := fun b o e => Heap.get?_push_of_some _ e
  refine wpAny_pyIter_list hl ⟨z₁, p.trans (.grown (tk := s₁.toks) p.st hsub), s₁.heap.objs.size, [s₁.heap.objs.size, a], [s₁.heap.objs.size], (fun i v => vs.toArray[i]? = some v), (fun i h => h.IsListIter s₁.heap.objs.size a i ∧ h.IsList a vs.toArray), rfl, ?_, rfl⟩
  refine ⟨?_, ⟨⟨_, Heap.get?_push_size _ rfl, rfl, rfl⟩, hl.at fun o e => hsub _ _ e⟩, ?_, ?_, ?_, ?_, ?_, ?_⟩
  · have e : ds.length = vs.toArray.size := by simpa using r.length.symm
    rw [e]
    exact Walks.list R.1 s₁.heap.objs.size a hne vs.toArray
  · intro i v hi
    exact r.getv (by simpa using hi)
  · intro b hb; rw [List.mem_singleton.mp hb]; exact old_none p.st p (get_size _)
  · intro b hb; rw [List.mem_singleton.mp hb]; exact z_none p.st (get_size _)
  · intro b hb hw
    rcases List.mem_cons.mp hb with rfl | hb
    · exact absurd (List.mem_singleton.mpr rfl) hw
    · rw [List.mem_singleton.mp hb]; exact hK _ hsub
  · intro k h hst b hb; rw [List.mem_singleton.mp hb]; obtain ⟨⟨o, e, _⟩, _⟩ := hst; exact ⟨o, e⟩
  · intro k h hst; obtain ⟨⟨o, e, e2, _⟩, _⟩ := hst; exact ⟨o, _, e, e2, by decide⟩
theorem it_tup {A : Around} {n : Nat} {z z₁ : Heap} {s s₁ : Shared} {σ σ₁ : Src} {a : Addr} {vs : List Value} {k : Nat} {ds : List D} {Kp : Heap → Addr → Prop} (R : Room A n) (_S : St0 c z s σ) (p : EPost c z s z₁ s₁ σ₁)
    (h1 : s₁.heap.get? a = some { cls := .type "tuple", data := .seq vs.toArray k }) (r : RepL c z₁ vs ds) (hK : ∀ h' : Heap, Sub s₁.heap h' → Kp h' a) :
    wpAny (model c.prog c.w) A (pyIter (.ref a)) (fun it s₂ => ∃ z', EPost c z s z' s₂ σ₁ ∧ ∃ I fp wt P St, it = .ref I ∧ ItAt c A s.heap z' s₂.heap I fp wt P St ds (Kp s₂.heap) ∧ z' = z₁) no2 s₁ := by
  have hl : s₁.heap.IsTuple a vs.toArray := ⟨_, h1, rfl, k, rfl⟩
  have hne : a ≠ s₁.heap.objs.size := Nat.ne_of_lt (Heap.lt_size h1)
  have hsub : Sub s₁.heap (s₁.heap.push { cls := .type "tuple_iterator", data := .fields #[.ref a, .int 0 0] }) := fun b o e => Heap.get?_push_of_some _ e
  refine wpAny_pyIter_tuple hl ⟨z₁, p.trans (.grown (tk := s₁.toks) p.st hsub), s₁.heap.objs.size, [s₁.heap.objs.size, a], [s₁.heap.objs.size], (fun i v => vs.toArray[i]? = some v), (fun i h => h.IsTupleIter s₁.heap.objs.size a i ∧ h.IsTuple a vs.toArray), rfl, ?_, rfl⟩
  refine ⟨?_, ⟨⟨_, Heap.get?_push_size _ rfl, rfl, rfl⟩, ⟨_, hsub _ _ h1, rfl, k, rfl⟩⟩, ?_, ?_, ?_, ?_, ?_, ?_⟩
  · have e : ds.length = vs.toArray.size := by simpa using r.length.symm
    rw [e]
    exact Walks.tuple R.1 s₁.heap.objs.size a hne vs.toArray
  · intro i v hi
    exact r.getv (by simpa using hi)
  · intro b hb; rw [List.mem_singleton.mp hb]; exact old_none p.st p (get_size _)
  · intro b hb; rw [List.mem_singleton.mp hb]; exact z_none p.st (get_size _)
  · intro b hb hw
    rcases List.mem_cons.mp hb with rfl | hb
    · exact absurd (List.mem_singleton.mpr rfl) hw
    · rw [List.mem_singleton.mp hb]; exact hK _ hsub
  · intro k h hst b hb; rw [List.mem_singleton.mp hb]; obtain ⟨⟨o, e, _⟩, _⟩ := hst; exact ⟨o, e⟩
  · intro k h hst; obtain ⟨⟨o, e, e2, _⟩, _⟩ := hst; exact ⟨o, _, e, e2, by decide⟩
theorem it_dict {A : Around} {n : Nat} {z z₁ : Heap} {s s₁ : Shared} {σ σ₁ : Src} {a : Addr} {kvs : List (Int × Value)} {Kp : Heap → Addr → Prop} (R : Room A n) (_S : St0 c z s σ) (p : EPost c z s z₁ s₁ σ₁)
    (h1 : s₁.heap.DictOf c.ik a kvs) (h2 : (a == sysModules) = false) (hK : ∀ h' : Heap, Sub s₁.heap h' → Kp h' a) :
    wpAny (model c.prog c.w) A (pyIter (.ref a)) (fun it s₂ => ∃ z', EPost c z s z' s₂ σ₁ ∧ ∃ I fp wt P St, it = .ref I ∧ ItAt c A s.heap z' s₂.heap I fp wt P St (kvs.map fun p => D.int p.1) (Kp s₂.heap) ∧ z' = z₁) no2 s₁ := by
  refine gen ?_; intro GG kGG
  obtain ⟨o, es, ep, e1, e2, e3, e4, e5, e6⟩ := h1
  have hd : s₁.heap.DictAt c.ik a kvs ep := ⟨o, es, e1, e2, e3, e4, e5, e6⟩
  have hne : a ≠ s₁.heap.objs.size := Nat.ne_of_lt (Heap.lt_size e1)
  have hsub : Sub s₁.heap (s₁.heap.push { cls := .type "dict_keyiterator", data := .fields #[.ref a, .int 0 0, .int kvs.length 0, .int ep 0] }) := fun b o e => Heap.get?_push_of_some _ e
  refine kGG ?_; clear kGG
  refine wpAny_pyIter_dict h2 hd ⟨z₁, p.trans (.grown (tk := s₁.toks) p.st hsub), s₁.heap.objs.size, [s₁.heap.objs.size, a], [s₁.heap.objs.size], (fun i v => ∃ k x, kvs[i]? = some (k, x) ∧ c.ik.is k v = true), (fun i h => h.IsKeyIter s₁.heap.objs.size a i kvs.length ep ∧ h.DictAt c.ik a kvs ep), rfl, ?_, rfl⟩
  refine ⟨?_, ⟨⟨_, Heap.get?_push_size _ rfl, rfl, rfl⟩, hd.at' fun o e => hsub _ _ e⟩, ?_, ?_, ?_, ?_, ?_, ?_⟩
  · have e : (kvs.map fun p => D.int p.1).length = kvs.length := by simp
    rw [e]
    exact Walks.dictKeys R.1 s₁.heap.objs.size a hne kvs ep
  · rintro i v ⟨k, x, hx, hv⟩
    refine ⟨.int k, by rw [List.getElem?_map, hx]; rfl, ?_⟩
    obtain ⟨t, rfl⟩ := Value.isInt_shape (show Value.isInt k v = true from hv)
    exact .int _ _
  · intro b hb; rw [List.mem_singleton.mp hb]; exact old_none p.st p (get_size _)
  · intro b hb; rw [List.mem_singleton.mp hb]; exact z_none p.st (get_size _)
  · intro b hb hw
    rcases List.mem_cons.mp hb with rfl | hb
    · exact absurd (List.mem_singleton.mpr rfl) hw
    · rw [List.mem_singleton.mp hb]; exact hK _ hsub
  · intro k h hst b hb; rw [List.mem_singleton.mp hb]; obtain ⟨⟨o, e, _⟩, _⟩ := hst; exact ⟨o, e⟩
  · intro k h hst; obtain ⟨⟨o, e, e2, _⟩, _⟩ := hst; exact ⟨o, _, e, e2, by decide⟩
noncomputable def ival (f : EX) : IX := fun ρ σ => match f ρ σ with
  | some (.list ds, σ) => some (ds, σ)
  | some (.tup ds, σ) => some (ds, σ)
  | _ => none
theorem SI.val {e : Expr} {f : EX} (h : SX c n sc nm e f) : SI c n sc nm e (ival f) := by
  intro A env z s ρ ad σ ds σ' R hs V hf
  unfold ival at hf
  split at hf <;> cases hf
  · rename_i hd
    refine monoX (h R hs V hd) fun v s₁ z₁ p r => ?_
    refine gen ?_; intro GG kGG
    obtain ⟨a, vs, m, rfl, h1, r1⟩ := r.list_inv
    refine kGG ?_; clear kGG
    refine wpAny_mono (it_list (Kp := fun _ b => ∃ o, z₁.get? b = some o) R V.st p (p.st.zh _ _ h1) r1 fun _ _ => ⟨_, h1⟩) (fun it s₂ hmm => ?_) fun _ _ x => x
    refine gen ?_; intro GG kGG
    obtain ⟨z', p', I, fp, wt, P, St, e, K, ez⟩ := hmm
    subst ez
    refine kGG ?_; clear kGG
    exact ⟨_, p', I, fp, wt, P, St, e, K⟩
  · rename_i hd
    refine monoX (h R hs V hd) fun v s₁ z₁ p r => ?_
    refine gen ?_; intro GG kGG
    obtain ⟨a, vs, m, rfl, h1, r1⟩ := r.tup_inv
    refine kGG ?_; clear kGG
    refine wpAny_mono (it_tup (Kp := fun _ b => ∃ o, z₁.get? b = some o) R V.st p (p.st.zh _ _ h1) r1 fun _ _ => ⟨_, h1⟩) (fun it s₂ hmm => ?_) fun _ _ x => x
    refine gen ?_; intro GG kGG
    obtain ⟨z', p', I, fp, wt, P, St, e, K, ez⟩ := hmm
    subst ez
    refine kGG ?_; clear kGG
    exact ⟨_, p', I, fp, wt, P, St, e, K⟩
noncomputable def ikeys (f : EX) : IX := fun ρ σ => match f ρ σ with
  | some (d, σ) => match d with
    | .dict ks _ => some (ks.map .int, σ)
    | _ => none
  | none => none
theorem SIB.keys {e : Expr} {f : EX} (h : SB c n sc nm e f) : SIB c n sc nm e (ikeys f) := by
  intro A env z s ρ ad σ ds σ' R hs V hf
  unfold ikeys at hf
  refine omD hf ?_; clear hf; intro dd σ₁ hd hf
  cases dd <;> try exact nos hf
  cases hf
  refine monoX (h R hs V hd) fun v s₁ z₁ p r => ?_
  refine gen ?_; intro GG kGG
  have hF : ∀ a, v = .ref a → Fine c a := by
    intro a e
    rcases r with r | ⟨a', o, e', q1, q2, _⟩
    · obtain ⟨a', kvs, e', h1, _⟩ := r.dict_inv
      rw [e] at e'; cases e'
      obtain ⟨o, es, ep, e1, _⟩ := h1
      exact p.st.fine (by rw [e1]; exact fun q => nomatch q)
    · rw [e'] at e; cases e; exact q2
  obtain ⟨a, kvs, rfl, h1, h2, rfl, h4⟩ := r.dict p.st.zh
  refine kGG ?_; clear kGG
  refine wpAny_mono (it_dict (Kp := fun h' b => Fine c b ∧ ∃ o, h'.get? b = some o) R V.st p h1 h2 fun h' hsub => ?_) (fun it s₂ hmm => ?_) fun _ _ x => x
  · obtain ⟨o, es, ep, e1, _⟩ := h1
    exact ⟨hF a rfl, o, hsub _ _ e1⟩
  · obtain ⟨z', p', I, fp, wt, P, St, e, K, ez⟩ := hmm
    rw [List.map_map]
    exact ⟨_, p', I, fp, wt, P, St, e, K⟩
noncomputable def rangeD (k : Int) : List D := (List.range k.toNat).map fun i => .int (i : Nat)
noncomputable def irange (f : EX) : IX := fun ρ σ => match f ρ σ with
  | some (.int k, σ) => if k ≤ 1000 ∧ -1000 ≤ k then some (rangeD k, σ) else none
  | _ => none
theorem SI.range (ok : c.Ok) {x : Str} {e : Expr} {p pos : Pos} {f : EX} (gb : GBi c x (.type "range")) (k : SX c n sc nm e f)
    (hx : sc.names.lookup x = some .globalImplicit := by rfl) (hs : ∀ env, starEach [e] env = [(false, eval e env)] := by intro _; rfl) (hd : (x == ("__debug__" : Str)) = false := by decide +kernel) :
    SI c n sc nm (.Call (.Name x p) [e] [] pos) (irange f) := by
  intro A env z s ρ ad σ ds σ' R hsc V hf
  refine gen ?_; intro GG kGG
  unfold irange at hf
  first | (refine omD hf ?_; clear hf; intro k σ₁ hd1 hf; try cases hf) | (refine omL hf ?_; clear hf; intro k σ₁ hd1 hf; try cases hf) | (refine omB hf ?_; clear hf; intro k σ₁ hd1 hf; try cases hf) | (refine omC hf ?_; clear hf; intro k σ₁ hd1 hf; try cases hf) | (refine omK hf ?_; clear hf; intro k σ₁ hd1 hf; try cases hf) | (refine omI hf ?_; clear hf; intro k σ₁ hd1 hf; try cases hf) | (refine omT hf ?_; clear hf; intro k σ₁ hd1 hf; try cases hf) | (refine omS hf ?_; clear hf; intro k σ₁ hd1 hf; try cases hf) | ((split at hf <;> try cases hf); rename_i k σ₁ hd1)
  first | (refine oIf hf ?_; clear hf; intro hb hf; cases hf) | ((split at hf <;> cases hf); rename_i hb)
  refine kGG ?_; clear kGG
  refine Call_name1 (hs env) (name_bi ok gb V (by rw [hsc]; exact hx) hd ?_)
  refine PySem.callWith_type1 (monoX (‹SX c n sc nm e f› R hsc V hd1) fun v s₁ z₁ p r => ?_)
  obtain ⟨t, rfl⟩ := r.int_inv
  refine call_range_1 ?_
  have hsub : Sub s₁.heap (s₁.heap.push { cls := .type "range", data := .fields #[.int 0 s₁.toks, .int k t, .int 1 (s₁.toks + 1)] }) := fun b o e => Heap.get?_push_of_some _ e
  have p₂ := p.trans (EPost.grown (tk := s₁.toks + 1 + 1) p.st hsub)
  have hsz : Builtin.Range.rangeSize 0 k 1 = (k.toNat : Int) := by
    unfold Builtin.Range.rangeSize
    simp only [show (1 : Int) > 0 by lia, if_true, Int.ediv_one]
    split <;> lia
  have hr := IsRange.new s₁.heap 0 k 1 s₁.toks t (s₁.toks + 1)
  have hsmall : Builtin.Range.small 0 k 1 = true := by
    unfold Builtin.Range.small
    rw [hsz]
    simp [Builtin.Range.rangeFitsLong]
    lia
  refine wpAny_pyIter_range hr hsmall ?_
  generalize hH : (s₁.heap.push { cls := .type "range", data := .fields #[.int 0 s₁.toks, .int k t, .int 1 (s₁.toks + 1)] }) = H at *
  have hsub2 : Sub H (H.push { cls := .type "range_iterator", data := .fields #[rawInt 0, rawInt (Builtin.Range.rangeSize 0 k 1), rawInt 1] }) := fun b o e => Heap.get?_push_of_some _ e
  refine ⟨z₁, p₂.trans (EPost.grown (tk := s₁.toks + 1 + 1) p₂.st hsub2), H.objs.size, [H.objs.size], [H.objs.size], (fun i v => i < k.toNat ∧ ∃ t, v = .int (0 + i * 1) t), (fun i h => IsRangeIter h H.objs.size (0 + (i : Nat) * 1) ((k.toNat : Int) - (i : Nat)) 1), rfl, ?_⟩
  refine ⟨?_, ?_, ?_, ?_, ?_, ?_, ?_, ?_⟩
  · have := (Walks.range (prog := c.prog) (w := c.w) (A := A) R.1 H.objs.size 0 1 k.toNat).bound
    have e : (rangeD k).length = k.toNat := by simp [rangeD]
    rw [e]
    exact this
  · show IsRangeIter _ _ _ _ _
    rw [hsz]
    simpa using Heap.get?_push_size H rfl
  · rintro i v ⟨hi, t', rfl⟩
    refine ⟨.int (i : Nat), by simp [rangeD, hi], ?_⟩
    have : (0 : Int) + (i : Int) * 1 = (i : Int) := by lia
    rw [this]
    exact .int _ _
  · intro b hb; rw [List.mem_singleton.mp hb]; exact old_none p₂.st p₂ (get_size _)
  · intro b hb; rw [List.mem_singleton.mp hb]; exact z_none p₂.st (get_size _)
  · intro b hb hw; exact absurd hb hw
  · intro k h hst b hb; rw [List.mem_singleton.mp hb]; exact ⟨_, hst⟩
  · intro k h hst; exact ⟨_, _, hst, rfl, by decide⟩
end
end Mine
end
section
open PySem PySem.Calls PySem.W PyProof.Rows
namespace Mine
/-- what only fresh things know has changed -/
theorem EPost.beside {c : Cx} {z z' : Heap} {s s' : Shared} {σ' : Src} (p : EPost c z s z' s' σ') (B : Addr → Prop) (h1 : ∀ a, B a → s.heap.get? a = none) (h2 : ∀ a, B a → z'.get? a = none) (h3 : ∀ a, B a → Fine c a) {h' : Heap} {tk : Nat}
    (hk : ∀ a o, ¬ B a → s'.heap.get? a = some o → h'.get? a = some o) : EPost c z s z' { s' with heap := h', toks := tk } σ' := by
  refine ⟨⟨fun a o e => hk a o (fun q => by rw [h2 a q] at e; cases e) (p.st.zh a o e), p.st.base, p.st.gens, p.st.os, fun a ha => ⟨(p.st.src a ha).off, ?_⟩, p.st.tabz, ?_⟩, p.zz, p.zn, fun a o f e => hk a o (fun q => by rw [h1 a q] at e; cases e) (p.hk a o f e)⟩
  · obtain ⟨t, u, e⟩ := (p.st.src a ha).at_
    exact ⟨t, u, e.at fun o e => hk _ _ (fun q => (h3 a q).1 ha) e⟩
  · obtain ⟨ps, e1, e2⟩ := p.st.tab
    exact ⟨ps, hk _ _ (fun q => (h3 _ q).2 rfl) e1, e2⟩
section
variable {prog : Program} {w : World} {A : Around} {E : Value → Shared → Prop} {R : Result → Shared → Prop} {s : Shared}
theorem compLoop_any {elt target iter : Expr} {ifs : List Expr} {scope : Scope} {pos : Pos} {it acc : Value} {env : Env} (I : Nat → Shared → Prop)
    (turn : ∀ n s, I n s → wpAny (model prog w) A (pyNext it) (fun r s₁ => match r with
      | none => R (.ok .next) s₁
      | some v => wpAny (model prog w) A (letOwnedTupleGo target it v) (fun _ s₁' => wpAny (model prog w) A (assign target env v) (fun _ s₂ =>
          wpAny (model prog w) A (forIn ifs true fun c r => if r = true then do let ok ← isTrue c env (eval c env); pure (ForInStep.yield ok) else pure (ForInStep.yield r)) (fun ok s₃ =>
            if ok = true then wpAny (model prog w) A (eval elt env) (fun x s₄ =>
              wpAny (model prog w) A (call (.builtin "list.append") [acc, x]) (fun _ s₅ => ∃ m, m < n ∧ I m s₅) no2 s₄) no2 s₃
            else ∃ m, m < n ∧ I m s₃) no2 s₂) no2 s₁') no2 s₁) no2 s)
    (n : Nat) (h : I n s) : codeAny (model prog w) A (.compLoop (.ListComp elt [⟨target, iter, ifs, 0⟩] scope pos) 0 it acc env) R s := by
  refine codeAny_loop rfl I (fun n s hI => ?_) n h
  show wpAny _ A ((compTurn (.ListComp elt [⟨target, iter, ifs, 0⟩] scope pos) 0 it acc env).onRaise (fun x => do noteFrame x env; theTreesLotGoes x)) _ _ s
  refine wpAny_noted ?_
  rw [compTurn_list]
  refine wpAny_bind (wpAny_standAt (wpAny_bind (wpAny_mono (turn n s hI) (fun r s₁ h₁ => ?_) fun _ _ h' => h'.elim)))
  cases r with
  | none => exact wpAny_pure h₁
  | some v =>
    refine wpAny_bind (wpAny_mono h₁ (fun _ s₁' h₁' => ?_) fun _ _ h' => h'.elim)
    refine wpAny_bind (wpAny_mono h₁' (fun _ s₂ h₂ => wpAny_bind (wpAny_mono h₂ (fun ok s₃ h₃ => ?_) fun _ _ h' => h'.elim)) fun _ _ h' => h'.elim)
    cases ok with
    | false => exact wpAny_pure ⟨rfl, h₃⟩
    | true =>
      exact wpAny_bind (wpAny_bind (wpAny_mono h₃ (fun x s₄ h₄ => wpAny_bind (wpAny_mono h₄ (fun _ s₅ h₅ => wpAny_pure (wpAny_pure ⟨rfl, h₅⟩)) fun _ _ h' => h'.elim)) fun _ _ h' => h'.elim))
end
noncomputable def relabelS (scope sc : Scope) : Scope :=
  { scope with names := scope.names.map fun (n, k) => if (k == .free && sc.kind == .function && sc.names.lookup n == some .cell) then (n, .cell) else (n, k) }
theorem relabel_eq (scope : Scope) (env : Env) : relabel scope env = relabelS scope env.scope := rfl
/-- the variables of a comprehension's own -/
abbrev CB := D → Option (List D)
noncomputable def cbname : CB := fun d => some [d]
noncomputable def cbtup (k : Nat) : CB := fun d => match d with
  | .tup ds => if ds.length = k then some ds else none
  | .list ds => if ds.length = k then some ds else none
  | _ => none
noncomputable def SCb (c : Cx) (n : Nat) (sc : Scope) (xs : List Str) (t : Expr) (cb : CB) : Prop :=
  ∀ ⦃A : Around⦄ ⦃env : Env⦄ ⦃z : Heap⦄ ⦃s : Shared⦄ ⦃σ : Src⦄ ⦃m v d ds⦄, Room A n → env.scope = sc → env.scope.kind = .function → St0 c z s σ → z.get? env.locals = none → Fine c env.locals → s.heap.Ns env.locals m → Rep c z v d → cb d = some ds →
    wpAny (model c.prog c.w) A (assign t env v) (fun _ s' => ∃ h' tk m', s' = { s with heap := h', toks := tk } ∧ h'.Ns env.locals m' ∧ (∀ b o, b ≠ env.locals → s.heap.get? b = some o → h'.get? b = some o) ∧
      ds.length = xs.length ∧ ∀ (j : Nat) (x : Str) (e : D), xs[j]? = some x → ds[j]? = some e → ∃ u, m' x = some u ∧ Rep c z u e) no2 s
section
variable {c : Cx} {n : Nat} {sc : Scope} {nm : List Str} {wr : List Str}
theorem SCb.name {x : Str} {p : Pos} (hx : sc.names.lookup x = some .local) : SCb c n sc [x] (.Name x p) cbname := by
  intro A env z s σ m v d ds R hs hk S hz hF hm r hf
  cases hf
  refine assign_name (wpAny_storeName_local (by rw [Env.kindOf, hs]; exact hx) hm (fun h' hn' hs' => ?_) (by rw [hk]; rfl))
  refine ⟨h', s.toks + 1, _, rfl, hn', fun b o hb e => by rw [hs'.2 b hb]; exact e, rfl, fun j y e h1 h2 => ?_⟩
  match j, h1, h2 with
  | 0, h1, h2 =>
    cases h1; cases h2
    exact ⟨v, by show (if x = x then some v else _) = _; rw [if_pos rfl], r⟩
  | j + 1, h1, h2 => simp at h1
theorem locals_store {A : Around} {env : Env} {z : Heap} {M : Model} (hk : env.scope.kind = .function) : ∀ {es : List Expr} {xs : List Str} {s : Shared} {m : Str → Option Value} {vs : List Value} {ds : List D}, (∃ ps : List Pos, es = (xs.zip ps).map (fun q => .Name q.1 q.2) ∧ ps.length = xs.length) →
    (∀ x ∈ xs, env.scope.names.lookup x = some .local) → xs.Nodup → s.heap.Ns env.locals m → RepL c z vs ds → ds.length = xs.length →
    wpAny M A (assignInOrder ((assignEach es env).map (·.2)) vs) (fun _ s' => ∃ h' tk m', s' = { s with heap := h', toks := tk } ∧ h'.Ns env.locals m' ∧ (∀ b o, b ≠ env.locals → s.heap.get? b = some o → h'.get? b = some o) ∧
      (∀ y, y ∉ xs → m' y = m y) ∧ ∀ (j : Nat) (x : Str) (e : D), xs[j]? = some x → ds[j]? = some e → ∃ u, m' x = some u ∧ Rep c z u e) no2 s := by
  intro es xs
  induction xs generalizing es with
  | nil =>
    rintro s m vs ds ⟨ps, rfl, _⟩ _ _ hm r hl
    cases ds with
    | nil => cases r; exact wpAny_pure ⟨s.heap, s.toks, m, rfl, hm, fun _ _ _ e => e, fun _ _ => rfl, fun j x e h => by simp at h⟩
    | cons d ds => cases hl
  | cons x xs ih =>
    rintro s m vs ds ⟨ps, rfl, hps⟩ hx hnd hm r hl
    cases ps with
    | nil => cases hps
    | cons p ps =>
      cases r with
      | nil => cases hl
      | cons r1 r2 =>
        rename_i v vs d ds
        show wpAny M A (do holding vs (assign (.Name x p) env v); assignInOrder ((assignEach ((xs.zip ps).map (fun q => .Name q.1 q.2)) env).map (·.2)) vs) _ _ s
        refine wpAny_bind (wpAny_holding (assign_name (wpAny_storeName_local (hx x (.head _)) hm (fun h' hn' hs' => ?_) (by rw [hk]; rfl))))
        have hnd' := List.nodup_cons.mp hnd
        refine wpAny_mono (ih ⟨ps, rfl, by simpa using hps⟩ (fun y hy => hx y (.tail _ hy)) hnd'.2 hn' r2 (by simpa using hl)) (fun _ s' hmm => ?_) fun _ _ x => x
        refine gen ?_; intro GG kGG
        obtain ⟨h2, tk2, m2, e, q1, q2, q3, q4⟩ := hmm
        refine kGG ?_; clear kGG
        refine ⟨h2, tk2, m2, e, q1, fun b o hb eb => q2 b o hb (by rw [hs'.2 b hb]; exact eb), fun y hy => ?_, fun j y e h1 h2 => ?_⟩
        · rw [q3 y (fun q => hy (.tail _ q))]
          show (if y = x then some v else m y) = m y
          rw [if_neg (by intro q; subst q; exact hy (.head _))]
        · cases j with
          | zero =>
            cases h1; cases h2
            exact ⟨v, by rw [q3 x hnd'.1]; show (if x = x then some v else _) = _; rw [if_pos rfl], r1⟩
          | succ j => exact q4 j y e (by simpa using h1) (by simpa using h2)
theorem names_len {env : Env} : ∀ {xs : List Str} {ps : List Pos}, ps.length = xs.length → (assignEach ((xs.zip ps).map (fun q => Expr.Name q.1 q.2)) env).length = xs.length ∧ (assignEach ((xs.zip ps).map (fun q => Expr.Name q.1 q.2)) env).findIdx? (·.1) = none
  | [], ps, h => ⟨rfl, rfl⟩
  | x :: xs, [], h => by cases h
  | x :: xs, p :: ps, h => by
    obtain ⟨h1, h2⟩ := names_len (env := env) (xs := xs) (ps := ps) (by simpa using h)
    have e : assignEach (((x :: xs).zip (p :: ps)).map (fun q => Expr.Name q.1 q.2)) env = (false, assign (.Name x p) env) :: assignEach ((xs.zip ps).map (fun q => Expr.Name q.1 q.2)) env := rfl
    rw [e]
    constructor
    · rw [List.length_cons, List.length_cons, h1]
    · rw [List.findIdx?_cons, h2]
      rfl
theorem SCb.tup {es : List Expr} {xs : List Str} {ps : List Pos} {k : Nat} {p : Pos} (he : es = (xs.zip ps).map (fun q => .Name q.1 q.2)) (hps : ps.length = xs.length) (hx : ∀ x ∈ xs, sc.names.lookup x = some .local) (hnd : xs.Nodup) :
    SCb c n sc xs (.Tuple es k p) (cbtup xs.length) := by
  intro A env z s σ m v d ds R hs hk S hz hF hm r hf
  subst he
  obtain ⟨l1, l2⟩ := names_len (env := env) hps
  have fin : ∀ {h' : Heap} {vs : List Value}, Heap.ExtBut s.heap.objs.size s.heap h' → RepL c z vs ds → ds.length = xs.length →
      wpAny (model c.prog c.w) A (assignInOrder ((assignEach ((xs.zip ps).map (fun q => .Name q.1 q.2)) env).map (·.2)) vs) (fun _ s' => ∃ h' tk m', s' = { s with heap := h', toks := tk } ∧ h'.Ns env.locals m' ∧ (∀ b o, b ≠ env.locals → s.heap.get? b = some o → h'.get? b = some o) ∧
        ds.length = xs.length ∧ ∀ (j : Nat) (x : Str) (e : D), xs[j]? = some x → ds[j]? = some e → ∃ u, m' x = some u ∧ Rep c z u e) no2 { s with heap := h' } := by
    intro h' vs he r1 hl
    have hm' : h'.Ns env.locals m := hm.at' fun o e => grow_of_ext he _ _ e
    refine wpAny_mono (locals_store (s := { s with heap := h' }) hk ⟨ps, rfl, hps⟩ (by rw [hs]; exact hx) hnd hm' r1 hl) (fun _ s' hmm => ?_) fun _ _ x => x
    obtain ⟨h2, tk2, m2, e, q1, q2, q3, q4⟩ := hmm
    exact ⟨h2, tk2, m2, e, q1, fun b o hb eb => q2 b o hb (grow_of_ext he _ _ eb), hl, q4⟩
  unfold cbtup at hf
  split at hf
  · first | (refine oIf hf ?_; clear hf; intro hl hf; cases hf) | ((split at hf <;> cases hf); rename_i hl)
    refine gen ?_; intro GG kGG
    obtain ⟨a, vs, q, rfl, h1, r1⟩ := r.tup_inv
    have hlen := r1.length
    refine kGG ?_; clear kGG
    exact assign_Tuple_tuple (items := vs.toArray) R.1 ⟨_, S.zh _ _ h1, rfl, q, rfl⟩ (by rw [l1, List.size_toArray]; lia) l2 fun h' he => fin he r1 hl
  · first | (refine oIf hf ?_; clear hf; intro hl hf; cases hf) | ((split at hf <;> cases hf); rename_i hl)
    refine gen ?_; intro GG kGG
    obtain ⟨a, vs, q, rfl, h1, r1⟩ := r.list_inv
    have hlen := r1.length
    refine kGG ?_; clear kGG
    rw [assign_Tuple]
    refine wpAny_bind (wpAny_standAt ?_)
    unfold unpack
    rw [show (assignEach ((xs.zip ps).map (fun q => Expr.Name q.1 q.2)) env).length = vs.toArray.size by rw [l1, List.size_toArray]; lia, l2]
    refine wpAny_bind (wpAny_holding (unpackItems_list R.1 ⟨_, S.zh _ _ h1, rfl, q, rfl⟩ fun h' he => ?_))
    exact fin he r1 hl
  · cases hf
/-! ### closures -/
theorem closure_go {env : Env} : ∀ (names : List (Str × NameKind)) (acc : List (Str × Addr)), (∀ y, (y, NameKind.free) ∈ names → ∃ a, env.cells.lookup y = some a) →
    ∃ cl : List (Str × Addr), (forIn names acc fun (x : Str × NameKind) (cs : List (Str × Addr)) => (if (x.2 == NameKind.free) = true then do let a ← cellOf env x.1; pure (ForInStep.yield ((x.1, a) :: cs)) else pure (ForInStep.yield cs) : Sem (ForInStep (List (Str × Addr))))) = pure cl ∧
      (∀ y a, (y, a) ∈ cl → (y, a) ∈ acc ∨ env.cells.lookup y = some a) ∧ (∀ y a, (y, a) ∈ acc → (y, a) ∈ cl) ∧ (∀ y, (y, NameKind.free) ∈ names → ∃ a, (y, a) ∈ cl)
  | [], acc, _ => ⟨acc, rfl, fun _ _ h => .inl h, fun _ _ h => h, fun _ h => by simp at h⟩
  | (x, k) :: names, acc, h => by
    rw [List.forIn_cons]
    by_cases hk : k = .free
    · subst hk
      refine gen ?_; intro GG kGG
      obtain ⟨a, ha⟩ := h x (.head _)
      have hc : cellOf env x = pure a := by unfold cellOf; rw [ha]
      obtain ⟨cl, e, q1, q2, q3⟩ := closure_go names ((x, a) :: acc) fun y hy => h y (.tail _ hy)
      refine kGG ?_; clear kGG
      refine ⟨cl, ?_, ?_, fun y b hy => q2 y b (.tail _ hy), ?_⟩
      · simp only [beq_self_eq_true, if_true, hc, pure_bind]
        exact e
      · intro y b hy
        rcases q1 y b hy with h' | h'
        · rcases List.mem_cons.mp h' with h' | h'
          · cases h'; exact .inr ha
          · exact .inl h'
        · exact .inr h'
      · intro y hy
        rcases List.mem_cons.mp hy with h' | h'
        · cases h'; exact ⟨a, q2 _ _ (.head _)⟩
        · exact q3 y h'
    · obtain ⟨cl, e, q1, q2, q3⟩ := closure_go names acc fun y hy => h y (.tail _ hy)
      refine ⟨cl, ?_, q1, q2, ?_⟩
      · have : (k == NameKind.free) = false := by cases k <;> first | rfl | exact absurd rfl hk
        simp only [this, Bool.false_eq_true, if_false, pure_bind]
        exact e
      · intro y hy
        rcases List.mem_cons.mp hy with h' | h'
        · cases h'; exact absurd rfl hk
        · exact q3 y h'
theorem lookup_of_all {env : Env} : ∀ {cl : List (Str × Addr)} {y : Str} {a : Addr}, (∀ y a, (y, a) ∈ cl → env.cells.lookup y = some a) → (y, a) ∈ cl → cl.lookup y = some a
  | (x, b) :: cl, y, a, h, hm => by
    rw [List.lookup_cons]
    cases e : y == x with
    | true =>
      have e' := beq_iff_eq.mp e
      subst e'
      have h1 := h y b (.head _)
      have h2 := h y a hm
      rw [h1] at h2
      exact h2
    | false =>
      rcases List.mem_cons.mp hm with q | q
      · cases q; simp at e
      · exact lookup_of_all (fun y a h' => h y a (.tail _ h')) q
theorem closure_of {scope : Scope} {env : Env} (h : ∀ y, (y, NameKind.free) ∈ scope.names → ∃ a, env.cells.lookup y = some a) :
    ∃ cl, closureFor scope env = pure cl ∧ (∀ y a, cl.lookup y = some a → env.cells.lookup y = some a) ∧ ∀ y a, (y, NameKind.free) ∈ scope.names → env.cells.lookup y = some a → cl.lookup y = some a := by
  refine gen ?_; intro GG kGG
  obtain ⟨cl, e, q1, q2, q3⟩ := closure_go (env := env) scope.names [] h
  have all : ∀ y a, (y, a) ∈ cl → env.cells.lookup y = some a := fun y a hy => (q1 y a hy).elim (fun q => by simp at q) id
  refine kGG ?_; clear kGG
  refine ⟨cl, ?_, fun y a hl => all y a (mem_of_lookup hl), fun y a hy ha => ?_⟩
  · unfold closureFor
    rw [bind_pure]
    exact e
  · obtain ⟨b, hb⟩ := q3 y hy
    have hb' := all y b hb
    rw [ha] at hb'
    cases hb'
    exact lookup_of_all all hb
end
end Mine
end
section
open PySem PySem.Calls PySem.W PyProof.Rows
namespace Mine
noncomputable def SIf (c : Cx) (n : Nat) (sc : Scope) (nm : List Str) (ifs : List Expr) (t : TX) : Prop :=
  ∀ ⦃A env z s ρ ad σ b σ'⦄, Room A n → env.scope = sc → VSt c z env s nm ρ ad σ → t ρ σ = some (b, σ') →
    wpAny (model c.prog c.w) A (forIn ifs true fun c r => if r = true then do let ok ← isTrue c env (eval c env); pure (ForInStep.yield ok) else pure (ForInStep.yield r)) (fun v s' => v = b ∧ ∃ z', EPost c z s z' s' σ') no2 s
noncomputable def tt : TX := fun _ σ => some (true, σ)
theorem SIf.nil {c : Cx} {n : Nat} {sc : Scope} {nm : List Str} : SIf c n sc nm [] tt := by
  intro A env z s ρ ad σ b σ' R hs V hf
  refine qgen ?_; intro QQ kQ
  cases hf
  exact wpAny_tests_nil (kQ _ _ ⟨rfl, z, .refl V.st⟩)
theorem SIf.one {c : Cx} {n : Nat} {sc : Scope} {nm : List Str} {e : Expr} {t : TX} (h : ST c n sc nm e t) : SIf c n sc nm [e] t := by
  intro A env z s ρ ad σ b σ' R hs V hf
  exact wpAny_tests_one (h R hs V hf)
noncomputable def compL (cb : CB) (t : TX) (f : EX) (ρc : Vars) : List D → Src → Option (List D × Src)
  | [], σ => some ([], σ)
  | d :: ds, σ => match cb d with
    | some ls => match t (ρc ++ ls.map .frz) σ with
      | some (true, σ) => match f (ρc ++ ls.map .frz) σ with
        | some (e, σ) => match compL cb t f ρc ds σ with
          | some (es, σ) => some (e :: es, σ)
          | none => none
        | none => none
      | some (false, σ) => compL cb t f ρc ds σ
      | none => none
    | none => none
theorem compL_cons {cb : CB} {t : TX} {f : EX} {ρc : Vars} {d : D} {ds : List D} {σ : Src} : compL cb t f ρc (d :: ds) σ = match cb d with
    | some ls => match t (ρc ++ ls.map .frz) σ with
      | some (true, σ) => match f (ρc ++ ls.map .frz) σ with
        | some (e, σ) => match compL cb t f ρc ds σ with
          | some (es, σ) => some (e :: es, σ)
          | none => none
        | none => none
      | some (false, σ) => compL cb t f ρc ds σ
      | none => none
    | none => none := rfl
noncomputable def isSet (ρ : Vars) (i : Nat) : Bool := match ρ[i]? with
  | some .un => false
  | some _ => true
  | none => false
noncomputable def caps (cap : List Nat) (ρ : Vars) : Vars := cap.map fun i => ρ.getD i .un
noncomputable def xcomp (cap : List Nat) (fi : IX) (cb : CB) (t : TX) (f : EX) : EX := fun ρ σ => match fi ρ σ with
  | some (ds, σ) => if ds.length ≤ 1000 ∧ cap.all (isSet ρ) = true then
      match compL cb t f (caps cap ρ) ds σ with
      | some (es, σ) => some (.list es, σ)
      | none => none
    else none
  | none => none
theorem CellOk.env {c : Cx} {z : Heap} {env env' : Env} {h : Heap} {a : Addr} {x : Str} {k : Cell} (H : CellOk c z env h a x k) (hv : ∀ v, Var env h x v → Var env' h x v) : CellOk c z env' h a x k := by
  cases k with
  | un => trivial
  | frz d => obtain ⟨v, h1, h2⟩ := H; exact ⟨v, hv _ h1, h2⟩
  | own d => obtain ⟨h1, h2, h3, h4, o, h5, h6⟩ := H; exact ⟨hv _ h1, h2, h3, h4, o, h5, h6⟩
  | ob ds => obtain ⟨v, h1, h2, h3, h4⟩ := H; exact ⟨v, hv _ h1, h2, h3, h4⟩
/-- what a comprehension's scope must be -/
structure CompOk (sc scope : Scope) (nm : List Str) (cap : List Nat) (xs nm' : List Str) : Prop where
  kind : scope.kind = .function
  cell : ∀ y ∈ scope.names, y.2 ≠ .cell
  names : ∀ y ∈ scope.names, y.2 = .local → scope.names.lookup y.1 = some .local
  xsf : ∀ x ∈ xs, (relabelS scope sc).names.lookup x = some .local
  freef : ∀ y, (y, NameKind.free) ∈ scope.names → ∃ i ∈ cap, nm[i]? = some y
  capf : ∀ i ∈ cap, ∃ x, nm[i]? = some x ∧ sc.names.lookup x = some .cell ∧ (x, NameKind.free) ∈ scope.names ∧ (relabelS scope sc).names.lookup x = some .cell
  nmf : nm' = cap.map (fun i => nm.getD i "") ++ xs
section
variable {c : Cx} {n : Nat} {sc : Scope} {nm : List Str} {wr : List Str}
theorem isSet_var {z : Heap} {env : Env} {s : Shared} {ρ : Vars} {ad : Nat → Addr} {σ : Src} (V : VSt c z env s nm ρ ad σ) {i : Nat} {x : Str} (hx : nm[i]? = some x) (h : isSet ρ i = true) : ∃ v, Var env s.heap x v := by
  unfold isSet at h
  cases e : ρ[i]? with
  | none => rw [e] at h; cases h
  | some k =>
    have := V.vars i x k hx e
    cases k with
    | un => rw [e] at h; cases h
    | frz d => obtain ⟨v, h1, _⟩ := this; exact ⟨v, h1⟩
    | own d => exact ⟨_, this.1⟩
    | ob ds => obtain ⟨v, h1, _⟩ := this; exact ⟨v, h1⟩
inductive CInv (c : Cx) (z : Heap) (s : Shared) (z₁ : Heap) (St : Nat → Heap → Prop) (ds es : List D) (Dd C : Addr) (wt : List Addr) (run : List D → Src → Option (List D × Src)) (σ' : Src) (q : Nat) (s' : Shared) : Prop
  | mk (k : Nat) (z' : Heap) (σ₂ : Src) (vs : List Value) (acc es' : List D) (p : EPost c z s z' s' σ₂) (hst : St k s'.heap) (hk : k ≤ ds.length) (hq : q = ds.length - k) (hD : s'.heap.PlainList Dd vs.toArray)
    (hvl : vs.length ≤ k) (hr : RepL c z' vs acc) (hm : ∃ m, s'.heap.Ns C m) (hzC : z'.get? C = none) (hzD : z'.get? Dd = none) (hzw : ∀ b ∈ wt, z'.get? b = none) (hsub : Sub z₁ z')
    (hrun : run (ds.drop k) σ₂ = some (es', σ')) (hes : acc ++ es' = es) : CInv c z s z₁ St ds es Dd C wt run σ' q s'
inductive CGo (c : Cx) (z : Heap) (s : Shared) (z₁ : Heap) (St : Nat → Heap → Prop) (Dd C : Addr) (wt : List Addr) (vs : List Value) (k : Nat) (z3 : Heap) (s3 : Shared) (σ3 : Src) : Prop
  | mk (p : EPost c z s z3 s3 σ3) (hst : St k s3.heap) (hD : s3.heap.PlainList Dd vs.toArray) (hm : ∃ m, s3.heap.Ns C m) (hzC : z3.get? C = none) (hzD : z3.get? Dd = none) (hzw : ∀ b ∈ wt, z3.get? b = none)
    (hsub : Sub z₁ z3) : CGo c z s z₁ St Dd C wt vs k z3 s3 σ3
theorem comp_core {scope : Scope} {cap : List Nat} {xs nm' : List Str} {elt target iter : Expr} {ifs : List Expr} {cpos : Pos} {cb : CB} {t : TX} {f : EX} (ok : CompOk sc scope nm cap xs nm')
    (hcb : SCb c n (relabelS scope sc) xs target cb) (ht : SIf c n (relabelS scope sc) nm' ifs t) (he : SX c n (relabelS scope sc) nm' elt f)
    {A : Around} {env : Env} {z z₁ : Heap} {s s₂ : Shared} {ρ : Vars} {ad : Nat → Addr} {σ σ₁ σ' : Src} {I : Addr} {fp wt : List Addr} {P : Nat → Value → Prop} {St : Nat → Heap → Prop} {ds es : List D} {cl : List (Str × Addr)}
    (R : Room A n) (hsc : env.scope = sc) (V : VSt c z env s nm ρ ad σ) (p₁ : EPost c z s z₁ s₂ σ₁) (K : ItAt c A s.heap z₁ s₂.heap I fp wt P St ds (fun b => Fine c b ∧ ∃ o, s₂.heap.get? b = some o)) (hlen : ds.length ≤ 1000)
    (hcap : cap.all (isSet ρ) = true) (hcl2 : ∀ y a, cl.lookup y = some a → env.cells.lookup y = some a) (hcl3 : ∀ y a, (y, NameKind.free) ∈ scope.names → env.cells.lookup y = some a → cl.lookup y = some a)
    (hrun : compL cb t f (caps cap ρ) ds σ₁ = some (es, σ')) {RR : Value → Addr → Result → Shared → Prop}
    (hRR : ∀ {D C : Addr} {z' : Heap} {s' : Shared} {vs : List Value} {k : Nat} {m : Str → Option Value} {w : Flow}, EPost c z s z' s' σ' → s.heap.get? D = none → s.heap.get? C = none → D ≠ C → z'.get? D = none → z'.get? C = none →
      s'.heap.get? D = some { cls := .type "list", data := .seq vs.toArray k } → RepL c z' vs es → s'.heap.Ns C m → RR (.ref D) C (.ok w) s') :
    wpAny (model c.prog c.w) A (newList []) (fun acc s₃ => wpAny (model c.prog c.w) A (newFunctionEnv scope env.globals cl [] env.qual none .none (some env)) (fun cenv s₄ =>
      codeAny (model c.prog c.w) A (.compStart (.ListComp elt [⟨target, iter, ifs, 0⟩] scope cpos) 0 (.ref I) acc { cenv with scope := relabel scope env }) (RR acc cenv.locals) s₄) no2 s₃) no2 s₂ := by
  refine wpAny_newObj_type (wpAny_newFunctionEnv ok.cell (by intro y hy; simp at hy) (fun h₁ hns₁ hsb₁ => ?_) ok.kind)
  dsimp only at hns₁ hsb₁ ⊢
  generalize hH2 : s₂.heap.push { cls := .type "list", dict := none, data := .seq ([] : List Value).toArray } = H2 at hns₁ hsb₁ ⊢
  have hsz : H2.objs.size = s₂.heap.objs.size + 1 := by rw [← hH2, Heap.size_push]
  generalize hDd : s₂.heap.objs.size = Dd at hsz ⊢
  generalize hCc : H2.objs.size = C at hns₁ hsb₁ hsz ⊢
  have hDC : Dd ≠ C := by lia
  have fD2 : s₂.heap.get? Dd = none := by rw [← hDd]; exact get_size _
  have fC2 : s₂.heap.get? C = none := get_ge (by lia)
  have fD : s.heap.get? Dd = none := old_none p₁.st p₁ fD2
  have fC : s.heap.get? C = none := old_none p₁.st p₁ fC2
  have FD : Fine c Dd := fine_new V.st fD
  have FC : Fine c C := fine_new V.st fC
  have old : ∀ b o, s₂.heap.get? b = some o → h₁.get? b = some o := fun b o e => by
    have hb : b < s₂.heap.objs.size := Heap.lt_size e
    have hbC : b ≠ C := by rw [hDd] at hb; rw [hsz]; exact Nat.ne_of_lt (Nat.lt_succ_of_lt hb)
    refine hsb₁.extBut b o hbC (Heap.get?_push_of_some _ (hH2 ▸ Heap.get?_push_of_some _ e))
  have hacc : h₁.PlainList Dd #[] := ⟨0, hsb₁.extBut _ _ hDC (Heap.get?_push_of_some _ (by rw [← hH2, ← hDd]; exact Heap.get?_push_size _ rfl))⟩
  have hfpx : ∀ b ∈ fp, ∃ o, s₂.heap.get? b = some o := fun b hb => by
    by_cases q : b ∈ wt
    · exact K.obj 0 _ K.st b q
    · exact (K.kept b hb q).2
  have hDf : Dd ∉ fp := fun q => by obtain ⟨o, e⟩ := hfpx _ q; rw [fD2] at e; cases e
  have hCf : C ∉ fp := fun q => by obtain ⟨o, e⟩ := hfpx _ q; rw [fC2] at e; cases e
  have hDw : Dd ∉ wt := fun q => by obtain ⟨o, e⟩ := K.obj 0 _ K.st _ q; rw [fD2] at e; cases e
  have hCw : C ∉ wt := fun q => by obtain ⟨o, e⟩ := K.obj 0 _ K.st _ q; rw [fC2] at e; cases e
  have Fw : ∀ b ∈ wt, Fine c b := fun b hb => fine_new V.st (K.fresh b hb)
  have Ff : ∀ b ∈ fp, Fine c b := fun b hb => by
    by_cases q : b ∈ wt
    · exact Fw b q
    · exact (K.kept b hb q).1
  have P0 : EPost c z s z₁ { s₂ with heap := h₁, toks := s₂.toks + ([] : List (Str × Value)).length } σ₁ := p₁.trans (.grown p₁.st old)
  have hst₁ : St 0 h₁ := K.W.frame _ _ _ K.st fun b _ o e => old b o e
  -- the block's frame
  have vst : ∀ {z' : Heap} {s' : Shared} {σ₂ : Src} {m : Str → Option Value} {ls : List D}, EPost c z s z' s' σ₂ → s'.heap.Ns C m → z'.get? C = none → ls.length = xs.length →
      (∀ (j : Nat) (x : Str) (e : D), xs[j]? = some x → ls[j]? = some e → ∃ u, m x = some u ∧ Rep c z' u e) →
      VSt c z' (compEnvC scope cl C env) s' nm' (caps cap ρ ++ ls.map .frz) (fun j => ad (cap.getD j 0)) σ₂ := by
    intro z' s' σ₂ m ls p hm hzC hll hb
    have V' := V.post p
    refine ⟨p.st, ok.kind, V.glob, V.blt, FC, fun y a h => V.fC y a (hcl2 y a h), fun j x k hx hk => ?_⟩
    rw [ok.nmf] at hx
    by_cases hj : j < cap.length
    · rw [List.getElem?_append_left (by simpa using hj)] at hx
      rw [List.getElem?_append_left (by simpa [caps] using hj)] at hk
      have hi : cap[j]? = some cap[j] := List.getElem?_eq_getElem hj
      rw [List.getElem?_map, hi] at hx
      unfold caps at hk
      rw [List.getElem?_map, hi] at hk
      simp only [Option.map_some, Option.some.injEq] at hx hk
      obtain ⟨y, hy1, hy2, hy3, hy4⟩ := ok.capf cap[j] (List.getElem_mem hj)
      have hxy : x = y := by rw [← hx, List.getD_eq_getElem?_getD, hy1]; rfl
      subst hxy
      have had : ad (cap.getD j 0) = ad cap[j] := by rw [List.getD_eq_getElem?_getD, hi]; rfl
      have hρ : ρ[cap[j]]? = some k := by
        rw [List.getD_eq_getElem?_getD] at hk
        have hset : isSet ρ cap[j] = true := List.all_eq_true.mp hcap _ (List.getElem_mem hj)
        unfold isSet at hset
        cases e : ρ[cap[j]]? with
        | none => rw [e] at hset; cases hset
        | some k' => rw [e] at hk; simp at hk; rw [hk]
      show CellOk c z' _ s'.heap (ad (cap.getD j 0)) x k
      rw [had]
      refine (V'.vars _ x k hy1 hρ).env fun v hv => ?_
      rcases hv with ⟨r1, _⟩ | ⟨r1, a, r2, r3⟩
      · rw [Env.kindOf, hsc, hy2] at r1; cases r1
      · exact .inr ⟨.inl (by show (relabel scope env).names.lookup x = _; rw [relabel_eq, hsc]; exact hy4), a, hcl3 x a hy3 r2, r3⟩
    · have hcl : (caps cap ρ).length = cap.length := by simp [caps]
      rw [List.getElem?_append_right (by simpa using hj)] at hx
      rw [List.getElem?_append_right (by rw [hcl]; lia), hcl] at hk
      simp only [List.length_map] at hx
      rw [List.getElem?_map] at hk
      cases e : ls[j - cap.length]? with
      | none => rw [e] at hk; cases hk
      | some e' =>
        rw [e] at hk
        cases hk
        obtain ⟨u, hu1, hu2⟩ := hb _ x e' hx e
        exact ⟨u, .inl ⟨by show (relabel scope env).names.lookup x = _; rw [relabel_eq, hsc]; exact ok.xsf x (List.mem_of_getElem? hx), m, hm, hu1⟩, hu2⟩
  let Inv : Nat → Shared → Prop := CInv c z s z₁ St ds es Dd C wt (compL cb t f (caps cap ρ)) σ'
  have loop : ∀ s₃ : Shared, s₃ = { s₂ with heap := h₁, toks := s₂.toks + ([] : List (Str × Value)).length } →
      codeAny (model c.prog c.w) A (.compLoop (.ListComp elt [⟨target, iter, ifs, 0⟩] scope cpos) 0 (.ref I) (.ref Dd) (compEnvC scope cl C env)) (RR (.ref Dd) C) s₃ := by
    rintro s₃ rfl
    refine compLoop_any Inv (fun q s' hI => ?_) ds.length ⟨0, z₁, σ₁, [], [], es, P0, hst₁, Nat.zero_le _, by lia, hacc, Nat.le_refl _, .nil, ⟨_, hns₁⟩, ?_, ?_, K.zoff, .refl _, by simpa using hrun, rfl⟩
    · obtain ⟨k, z', σ₂, vs, acc, es', p, hst, hk, rfl, hD, hvl, hr, ⟨m, hm⟩, hzC, hzD, hzw, hsub, hrun', hes⟩ := hI
      by_cases hlt : k < ds.length
      · refine K.W.item k s' _ _ hlt hst fun v h' tk hP hst' hkeep => ?_
        obtain ⟨d, hd', rv⟩ := K.item k v hP
        have hdrop : ds.drop k = d :: ds.drop (k + 1) := by
          rw [List.drop_eq_getElem_cons hlt]
          congr 1
          exact Option.some.inj ((List.getElem?_eq_getElem hlt).symm.trans hd')
        rw [hdrop] at hrun'
        rw [compL_cons] at hrun'
        have p' := p.beside (fun a => a ∈ wt) K.fresh hzw Fw (h' := h') (tk := tk) fun a o ha e => hkeep a o ha e
        obtain ⟨oI, TI, hI1, hI2, hI3⟩ := K.pl _ _ hst'
        refine letOwned (s := { s' with heap := h', toks := tk }) hI1 hI2 hI3 ?_
        split at hrun' <;> try cases hrun'
        rename_i ls hls
        have hm' : h'.Ns C m := hm.at' fun o e => hkeep C o hCw e
        have hD' : h'.PlainList Dd vs.toArray := hD.at fun o e => hkeep _ o hDw e
        refine wpAny_mono (hcb (env := compEnvC scope cl C env) R (by show relabel scope env = _; rw [relabel_eq, hsc]) ok.kind p'.st hzC FC hm' (rv.mono hsub) hls) (fun _ s2 hmm => ?_) fun _ _ x => x
        obtain ⟨h2, tk2, m2, e2, q1, q2, q3, q4⟩ := hmm
        subst e2
        have q2' : ∀ b o, b ≠ C → h'.get? b = some o → h2.get? b = some o := q2
        have p2 : EPost c z s z' { s' with heap := h2, toks := tk2 } σ₂ := p'.beside (fun a => a = C) (fun a e => by rw [e]; exact fC) (fun a e => by rw [e]; exact hzC) (fun a e => by rw [e]; exact FC) (h' := h2) (tk := tk2) fun a o ha e => q2 a o ha e
        have hD2 : h2.PlainList Dd vs.toArray := hD'.at fun o e => q2' _ o hDC e
        have hst2 : St (k + 1) h2 := K.W.frame _ _ _ hst' fun b hb o e => q2' b o (fun q => hCf (q ▸ hb)) e
        have V2 := vst p2 q1 hzC q3 q4
        have go : ∀ {z3 : Heap} {s3 : Shared} {σ3 : Src}, EPost c z' { s' with heap := h2, toks := tk2 } z3 s3 σ3 → CGo c z s z₁ St Dd C wt vs (k + 1) z3 s3 σ3 := by
          intro z3 s3 σ3 p3
          refine ⟨p2.trans p3, K.W.frame _ _ _ hst2 fun b hb o e => p3.hk b o (Ff b hb) e, hD2.at fun o e => p3.hk _ o FD e, ⟨m2, q1.at' fun o e => p3.hk _ o FC e⟩, ?_, ?_, fun b hb => ?_, hsub.trans p3.zz⟩
          · obtain ⟨o, _, _, e, _⟩ := q1; exact off_keep p3 hzC e
          · obtain ⟨k', e⟩ := hD2; exact off_keep p3 hzD e
          · obtain ⟨o, e⟩ := K.obj _ _ hst2 b hb; exact off_keep p3 (hzw b hb) e
        split at hrun' <;> try cases hrun'
        · rename_i σ3 htst
          refine wpAny_mono (ht R (by show relabel scope env = _; rw [relabel_eq, hsc]) V2 htst) (fun b s3 hmm => ?_) fun _ _ x => x
          obtain ⟨eb, z3, p3⟩ := hmm
          subst eb
          rw [if_pos rfl]
          first | (refine omD hrun' ?_; clear hrun'; intro e σ4 helt hrun'; try cases hrun') | (refine omL hrun' ?_; clear hrun'; intro e σ4 helt hrun'; try cases hrun') | (refine omB hrun' ?_; clear hrun'; intro e σ4 helt hrun'; try cases hrun') | (refine omC hrun' ?_; clear hrun'; intro e σ4 helt hrun'; try cases hrun') | (refine omK hrun' ?_; clear hrun'; intro e σ4 helt hrun'; try cases hrun') | (refine omI hrun' ?_; clear hrun'; intro e σ4 helt hrun'; try cases hrun') | (refine omT hrun' ?_; clear hrun'; intro e σ4 helt hrun'; try cases hrun') | (refine omS hrun' ?_; clear hrun'; intro e σ4 helt hrun'; try cases hrun') | ((split at hrun' <;> try cases hrun'); rename_i e σ4 helt)
          obtain ⟨g1, g2, g3, g4, g5, g6, g7, g8⟩ := go p3
          refine wpAny_mono (he R (by show relabel scope env = _; rw [relabel_eq, hsc]) (V2.post p3) helt) (fun u s4 hmm => ?_) fun _ _ x => x
          obtain ⟨z4, p4, r4⟩ := hmm
          obtain ⟨g1, g2, g3, g4, g5, g6, g7, g8⟩ := go (p3.trans p4)
          first | (refine oD hrun' ?_; clear hrun'; intro es2 hes2 hrun'; try cases hrun') | ((split at hrun' <;> cases hrun'); rename_i es2 hes2)
          refine wpAny_list_append_plain g3 (fun h5 hl5 hs5 => ?_) (small_fits (by rw [List.size_toArray]; lia))
          have p5 := g1.beside (fun a => a = Dd) (fun a e => by rw [e]; exact fD) (fun a e => by rw [e]; exact g6) (fun a e => by rw [e]; exact FD) (h' := h5) (tk := s4.toks) fun a o ha e => by rw [hs5.2 a ha]; exact e
          refine ⟨_, Nat.sub_lt_sub_left hlt (Nat.lt_succ_self k), k + 1, z4, σ4, vs ++ [u], acc ++ [e], es2, p5, ?_, hlt, rfl, by simpa using hl5, by simp; lia, (hr.mono (p3.zz.trans p4.zz)).append (.cons r4 .nil), ?_, g5, g6, g7, g8, hes2, by simpa using hes⟩
          · exact K.W.frame _ _ _ g2 fun b hb o e => by rw [hs5.2 b (fun q => hDf (q ▸ hb))]; exact e
          · obtain ⟨m4, hm4⟩ := g4; exact ⟨m4, hm4.sameBut hs5 hDC.symm⟩
        · rename_i σ3 htst
          refine wpAny_mono (ht R (by show relabel scope env = _; rw [relabel_eq, hsc]) V2 htst) (fun b s3 hmm => ?_) fun _ _ x => x
          obtain ⟨eb, z3, p3⟩ := hmm
          subst eb
          rw [if_neg (by simp)]
          obtain ⟨g1, g2, g3, g4, g5, g6, g7, g8⟩ := go p3
          exact ⟨_, Nat.sub_lt_sub_left hlt (Nat.lt_succ_self k), k + 1, z3, σ3, vs, acc, es', g1, g2, hlt, rfl, g3, by lia, hr.mono p3.zz, g4, g5, g6, g7, g8, hrun', hes⟩
      · have hke : k = ds.length := by lia
        subst hke
        refine K.W.done s' _ _ hst fun h' tk hkeep => ?_
        rw [List.drop_length] at hrun'
        cases hrun'
        have hes' : acc = es := by simpa using hes
        subst hes'
        have p' := p.beside (fun a => a ∈ wt) K.fresh hzw Fw (h' := h') (tk := tk) fun a o ha e => hkeep a o ha e
        obtain ⟨kk, eD⟩ := hD
        exact hRR (vs := vs) p' fD fC hDC hzD hzC (hkeep _ _ hDw eD) hr (hm.at' fun o e => hkeep C o hCw e)
    · exact z_none p₁.st fC2
    · exact z_none p₁.st fD2
  exact codeAny_compStart_list (loop _ rfl) (K.W.self 0 _ _ _ hst₁ (loop _ rfl))
end
end Mine
end
section
open PySem PySem.Calls PySem.W PyProof.Rows
namespace Mine
section
variable {c : Cx} {n : Nat} {sc : Scope} {nm : List Str} {wr : List Str}
theorem ORep.rep {z : Heap} {a : Addr} {o : Obj} {d : D} (h : ORep c z o d) (ho : z.get? a = some o) (hs : (a == sysModules) = false) : Rep c z (.ref a) d := by
  cases d <;> try exact h.elim
  · obtain ⟨vs, n, rfl, r⟩ := h; exact .list ho r
  · obtain ⟨kvs, e, e2, r⟩ := h; exact .dict (Heap.dictOf_iff.mpr ⟨o, ho, e⟩) hs e2 rfl r
theorem SFr.toX (ok : c.Ok) {e : Expr} {f : EX} (h : SFr c n sc nm e f) : SX c n sc nm e f := by
  intro A env z s ρ ad σ d σ' R hs V hf
  refine qgen ?_; intro QQ kQ
  refine monoX (h R hs V hf) fun v s' z' p hmm => ?_
  refine gen ?_; intro GG kGG
  obtain ⟨a, o, e1, e2, e3, e4, e5⟩ := hmm
  subst e1
  obtain ⟨z'', p', hsub, hz⟩ := p.freeze (fun b => b = a) (fun b e => by rw [e]; exact e2) (fun b e => by rw [e]; exact fine_new V.st e2)
  refine kGG ?_; clear kGG
  exact (kQ _ _ ⟨z'', p', (e5.mono hsub).rep (by rw [hz a rfl]; exact e4) (new_sys ok V.st e2)⟩)
theorem cap_cells {scope : Scope} {cap : List Nat} {xs nm' : List Str} (ok : CompOk sc scope nm cap xs nm') {z : Heap} {env : Env} {s : Shared} {ρ : Vars} {ad : Nat → Addr} {σ : Src} (hsc : env.scope = sc) (V : VSt c z env s nm ρ ad σ) (hcap : cap.all (isSet ρ) = true) :
    ∀ y, (y, NameKind.free) ∈ scope.names → ∃ a, env.cells.lookup y = some a := by
  intro y hy
  refine gen ?_; intro GG kGG
  obtain ⟨i, hi, hn⟩ := ok.freef y hy
  obtain ⟨x, q1, q2, _⟩ := ok.capf i hi
  refine kGG ?_; clear kGG
  rw [hn] at q1; cases q1
  obtain ⟨v, hv⟩ := isSet_var V hn (List.all_eq_true.mp hcap i hi)
  rcases hv with ⟨r1, _⟩ | ⟨_, a, r2, _⟩
  · rw [Env.kindOf, hsc, q2] at r1; cases r1
  · exact ⟨a, r2⟩
theorem SFr.comp {scope : Scope} {cap : List Nat} {xs nm' : List Str} {elt target iter : Expr} {ifs : List Expr} {pos : Pos} {fi : IX} {cb : CB} {t : TX} {f : EX} (ok : CompOk sc scope nm cap xs nm')
    (hi : SIB c n sc nm iter fi) (hcb : SCb c n (relabelS scope sc) xs target cb) (ht : SIf c n (relabelS scope sc) nm' ifs t) (he : SX c n (relabelS scope sc) nm' elt f)
    (hs : ∀ env x, foldedSetIterable iter env x = pure x := by intro _ _; rfl) : SFr c n sc nm (.ListComp elt [⟨target, iter, ifs, 0⟩] scope pos) (xcomp cap fi cb t f) := by
  intro A env z s ρ ad σ d σ' R hsc V hf
  refine qgen ?_; intro QQ kQ
  unfold xcomp at hf
  first | (refine omD hf ?_; clear hf; intro ds σ₁ hd hf; try cases hf) | (refine omL hf ?_; clear hf; intro ds σ₁ hd hf; try cases hf) | (refine omB hf ?_; clear hf; intro ds σ₁ hd hf; try cases hf) | (refine omC hf ?_; clear hf; intro ds σ₁ hd hf; try cases hf) | (refine omK hf ?_; clear hf; intro ds σ₁ hd hf; try cases hf) | (refine omI hf ?_; clear hf; intro ds σ₁ hd hf; try cases hf) | (refine omT hf ?_; clear hf; intro ds σ₁ hd hf; try cases hf) | (refine omS hf ?_; clear hf; intro ds σ₁ hd hf; try cases hf) | ((split at hf <;> try cases hf); rename_i ds σ₁ hd)
  split at hf <;> try cases hf
  refine gen ?_; intro GG kGG
  rename_i hc
  first | (refine oD hf ?_; clear hf; intro es hrun hf; try cases hf) | ((split at hf <;> cases hf); rename_i es hrun)
  obtain ⟨cl, hclos, hcl2, hcl3⟩ := closure_of (cap_cells ok hsc V hc.2)
  refine kGG ?_; clear kGG
  rw [eval_ListComp]
  refine wpAny_comprehension_free (use := none) rfl (hs env) hclos ok.kind ok.names (wpAny_mono (hi R hsc V hd) (fun xv s₁ h₁ => wpAny_mono h₁ (fun it s₂ h₂ => ?_) fun _ _ e => e) fun _ _ e => e)
  refine gen ?_; intro GG kGG
  obtain ⟨z₁, p₁, I, fp, wt, P, St, rfl, K⟩ := h₂
  refine kGG ?_; clear kGG
  refine comp_core (RR := fun acc C => compPost (model c.prog c.w) A no2 none _ acc C) ok hcb ht he R hsc V p₁ K hc.1 hc.2 hcl2 hcl3 hrun ?_
  intro Dd C z' s' vs k m w p fD fC hDC hzD hzC hoD r hm
  refine ⟨m, hm, fun h' hs' => ?_⟩
  refine (kQ _ _ ⟨z', p.beside (fun a => a = C) (fun a e => by rw [e]; exact fC) (fun a e => by rw [e]; exact hzC) (fun a e => by rw [e]; exact fine_new V.st fC) (h' := h') (tk := s'.toks) (fun a o ha e => by rw [hs'.2 a ha]; exact e), Dd, _, rfl, fD, hzD, ?_, vs, k, rfl, r⟩)
  show h'.get? Dd = _
  rw [hs'.2 Dd hDC]; exact hoD
/-- x = [ … for … ] -/
theorem SS.assignComp (hnd : nm.Nodup) (okc : c.Ok) {x : Str} {i : Nat} {p' spos : Pos} {scope : Scope} {cap : List Nat} {xs nm' : List Str} {elt target iter : Expr} {ifs : List Expr} {pos : Pos} {fi : IX} {cb : CB} {t : TX} {f : EX} (ok : CompOk sc scope nm cap xs nm')
    (hi : SIB c n sc nm iter fi) (hcb : SCb c n (relabelS scope sc) xs target cb) (ht : SIf c n (relabelS scope sc) nm' ifs t) (he : SX c n (relabelS scope sc) nm' elt f)
    (hix : nm[i]? = some x) (hx : sc.names.lookup x = some .local ∨ x ∈ wr)
    (hsw : ∀ env, env.scope = sc → swapsWith (.ListComp elt [⟨target, iter, ifs, 0⟩] scope pos) (some (.Name x p')) spos.line env = pure true := by intro _ _; rfl)
    (hs : ∀ env x, foldedSetIterable iter env x = pure x := by intro _ _; rfl) : SS c n sc nm wr (.Assign [.Name x p'] (.ListComp elt [⟨target, iter, ifs, 0⟩] scope pos) spos) (sset i (cown (xcomp cap fi cb t f))) := by
  intro A env g z s ρ ad σ fl ρ' σ' R hsc T hf
  refine qgen ?_; intro QQ kQ
  refine gen ?_; intro GG kGG
  unfold sset at hf
  first | (refine oD hf ?_; clear hf; intro k hk hf; try cases hf) | ((split at hf <;> cases hf); rename_i k hk)
  unfold cown at hk
  first | (refine oD hk ?_; clear hk; intro d hd0 hk; try cases hk) | ((split at hk <;> cases hk); rename_i d hd0)
  unfold xcomp at hd0
  first | (refine omD hd0 ?_; clear hd0; intro ds σ₁ hd hd0; try cases hd0) | (refine omL hd0 ?_; clear hd0; intro ds σ₁ hd hd0; try cases hd0) | (refine omB hd0 ?_; clear hd0; intro ds σ₁ hd hd0; try cases hd0) | (refine omC hd0 ?_; clear hd0; intro ds σ₁ hd hd0; try cases hd0) | (refine omK hd0 ?_; clear hd0; intro ds σ₁ hd hd0; try cases hd0) | (refine omI hd0 ?_; clear hd0; intro ds σ₁ hd hd0; try cases hd0) | (refine omT hd0 ?_; clear hd0; intro ds σ₁ hd hd0; try cases hd0) | (refine omS hd0 ?_; clear hd0; intro ds σ₁ hd hd0; try cases hd0) | ((split at hd0 <;> try cases hd0); rename_i ds σ₁ hd)
  refine kGG ?_; clear kGG
  split at hd0 <;> try cases hd0
  refine gen ?_; intro GG kGG
  rename_i hc
  first | (refine oD hd0 ?_; clear hd0; intro es hrun hd0; try cases hd0) | ((split at hd0 <;> cases hd0); rename_i es hrun)
  have V := T.v
  obtain ⟨cl, hclos, hcl2, hcl3⟩ := closure_of (cap_cells ok hsc V hc.2)
  refine kGG ?_; clear kGG
  rw [exec_Assign_Name_used _ _ _ _ (hsw env hsc)]
  refine wpAny_bind (wpAny_standAt (wpAny_bind ?_))
  show wpAny _ A (do let _ ← comprehension (.ListComp elt [⟨target, iter, ifs, 0⟩] scope pos) scope env _ (newList []) false (eval iter env) (some (PySem.assign (.Name x p') env))) _ _ s
  refine wpAny_bind (wpAny_mono (wpAny_comprehension_free (use := some (PySem.assign (.Name x p') env)) (Q := fun _ s' => ∃ z' ad', SPost c g z z' ∧ SSt c g wr z' env s' nm (ρ.set i (.own (.list es))) ad' σ') rfl (hs env) hclos ok.kind ok.names
    (wpAny_mono (hi R hsc V hd) (fun xv s₁ h₁ => wpAny_mono h₁ (fun it s₂ h₂ => ?_) fun _ _ e => e) fun _ _ e => e)) (fun _ s' ⟨z', ad', sp, T'⟩ => wpAny_pure (wpAny_pure (kQ _ _ ⟨z', ad', sp, T', .next⟩))) fun _ _ e => e)
  refine gen ?_; intro GG kGG
  obtain ⟨z₁, p₁, I, fp, wt, P, St, rfl, K⟩ := h₂
  refine kGG ?_; clear kGG
  refine comp_core (RR := fun acc C => compPost (model c.prog c.w) A no2 (some (PySem.assign (.Name x p') env)) _ acc C) ok hcb ht he R hsc V p₁ K hc.1 hc.2 hcl2 hcl3 hrun ?_
  intro Dd C z' s' vs kk m w p fD fC hDC hzD hzC hoD r hm
  show wpAny _ A (PySem.assign (.Name x p') env (.ref Dd)) _ _ _
  have T₁ := T.post p
  have hold : ∀ {a : Addr} {o : Obj}, s.heap.get? a = some o → a ≠ C := fun {a o} e q => by rw [q, fC] at e; cases e
  have FC := fine_new V.st fC
  have hLC : ¬ env.locals = C := by obtain ⟨m', o, es', ep, e, _⟩ := T.ns; exact hold e
  have hBc : ∀ x a, env.cells.lookup x = some a → ¬ a = C := fun x a e => by
    obtain ⟨w, o, e1, _⟩ := T.cx x a e; exact hold e1
  have hBo : ∀ j k', ρ[j]? = some k' → isOwn k' = true → ¬ ad j = C := fun j k' e ho => by
    have hj : j < nm.length := Nat.lt_of_lt_of_le (List.getElem?_eq_some_iff.mp e).1 T.len
    obtain ⟨o, d, e1, _⟩ := T.own_obj (List.getElem?_eq_getElem hj) e ho
    exact hold e1
  have gC : g C = none := by
    cases e : g C with
    | none => rfl
    | some o => exact absurd rfl (hold (T.keep C o e))
  have T₂ : SSt c (fun a => if a = C then s'.heap.get? C else g a) wr z' env s' nm ρ ad σ' :=
    T₁.beside (s := s') (B := fun a => a = C) (h' := s'.heap) (tk := s'.toks) (fun a o _ e => e) (fun a e => by rw [e]; exact hzC) (fun a e => by rw [e]; exact FC) hLC hBo hBc (fun a ha => if_neg ha) (fun a o ha e => by simp only [if_pos ha] at e; rw [ha]; exact e) (fun a ha => by rw [ha]; exact FC.1) (fun e => FC.2 e.symm)
  have r0 : CRes c s.heap z' s'.heap (.ref Dd) (.own (.list es)) Dd := ⟨rfl, fD, hzD, fine_new V.st fD, new_sys okc V.st fD, _, hoD, vs, kk, rfl, r⟩
  have N0 := newCell (i := i) T p r0
  have N : NewCell c (fun a => if a = C then s'.heap.get? C else g a) z' env s'.heap ρ ad i (.ref Dd) (.own (.list es)) Dd := { frz := N0.frz, ownd := N0.ownd, ob := N0.ob, gn := fun e => ⟨(if_neg hDC).trans (N0.gn e).1, (N0.gn e).2⟩, ap := N0.ap }
  refine assign_name (T₂.store hnd hix (by rw [Env.kindOf, hsc]; exact hx) N fun s'' T' => ?_)
  have hCs : ∀ o, s'.heap.get? C = some o → s''.heap.get? C = some o := fun o e => T'.keep C o (by rw [if_pos rfl]; exact e)
  refine ⟨m, hm.at' hCs, fun h' hs' => ?_⟩
  refine ⟨z', _, T.spost p, T'.beside (B := fun a => a = C) (h' := h') (tk := s''.toks) (fun a o ha e => by rw [hs'.2 a ha]; exact e) (fun a e => by rw [e]; exact hzC) (fun a e => by rw [e]; exact FC) hLC (fun j k' e ho q => ?_) hBc (fun a ha => (if_neg ha).symm) (fun a o ha e => by rw [ha, gC] at e; cases e) (fun a ha => by rw [ha]; exact FC.1) (fun e => FC.2 e.symm)⟩
  refine gen ?_; intro GG kGG
  obtain ⟨e1, _⟩ := T'.own j k' e ho
  rw [if_pos q] at e1
  obtain ⟨o, _, _, e2, _⟩ := hm
  refine kGG ?_; clear kGG
  rw [e2] at e1; cases e1
/-! ### ghost: what is own becomes data -/
theorem St0.freeze {z : Heap} {s : Shared} {σ : Src} (S : St0 c z s σ) {b : Addr} (hF : Fine c b) : ∃ z', Sub z z' ∧ z'.get? b = s.heap.get? b ∧ (∀ a, a ≠ b → z'.get? a = z.get? a) ∧ St0 c z' s σ := by
  obtain ⟨z', h3, h4⟩ := Mine.freeze S.zh (fun a => a = b)
  have hs : Sub z z' := fun a o e => by
    by_cases ha : a = b
    · rw [h3 a ha]; exact S.zh _ _ e
    · rw [h4 a ha]; exact e
  refine ⟨z', hs, h3 b rfl, h4, ⟨fun a o e => ?_, S.base.trans hs, S.gens, S.os, fun a ha => ⟨?_, (S.src a ha).at_⟩, ?_, ?_⟩⟩
  · by_cases ha : a = b
    · rw [h3 a ha] at e; exact e
    · rw [h4 a ha] at e; exact S.zh _ _ e
  · have : a ≠ b := fun q => hF.1 (by rw [← q]; exact ha)
    rw [h4 a this]; exact (S.src a ha).off
  · have : c.P ≠ b := fun q => hF.2 q.symm
    rw [h4 _ this]; exact S.tabz
  · obtain ⟨ps, e1, e2⟩ := S.tab
    refine ⟨ps, e1, e2.imp id ?_⟩
    rintro ⟨cd, e3, e4⟩
    exact ⟨cd, e3, e4.keeps hs⟩
theorem SSt.freeze {g : Addr → Option Obj} {z : Heap} {env : Env} {s : Shared} {ρ : Vars} {ad : Nat → Addr} {σ : Src} (T : SSt c g wr z env s nm ρ ad σ) (i : Nat) : ∃ z', SPost c g z z' ∧ SSt c g wr z' env s nm (frzAt ρ i) ad σ := by
  unfold frzAt
  cases hk : ρ[i]? with
  | none => exact ⟨z, .refl, T⟩
  | some k =>
    have same : ∀ {k : Cell}, ρ[i]? = some k → frzC k = k → SSt c g wr z env s nm (ρ.set i (frzC k)) ad σ := fun {k} e e2 => by
      have : ρ.set i (frzC k) = ρ := by
        rw [e2]; apply List.ext_getElem?; intro j
        rw [List.getElem?_set]
        split
        · rename_i q; subst q
          split
          · exact e.symm
          · rename_i h; rw [List.getElem?_eq_none (by lia)]
        · rfl
      rw [this]; exact T
    by_cases ho : isOwn k = true
    · have hi : i < nm.length := Nat.lt_of_lt_of_le (List.getElem?_eq_some_iff.mp hk).1 T.len
      refine gen ?_; intro GG kGG
      have hni := List.getElem?_eq_getElem hi
      have H := T.v.vars i _ _ hni hk
      obtain ⟨oi, di, ei1, ei2⟩ := T.own_obj hni hk ho
      obtain ⟨gi, Li⟩ := T.own i k hk ho
      have hz : z.get? (ad i) = none := by
        cases k with
        | own d => obtain ⟨_, h2, _⟩ := H; exact h2
        | ob ds => obtain ⟨v, h1, h2, h3, h4⟩ := H; exact h2
        | _ => cases ho
      have hF : Fine c (ad i) := by
        cases k with
        | own d => obtain ⟨_, _, h3, _⟩ := H; exact h3
        | ob ds => obtain ⟨v, h1, h2, h3, h4⟩ := H; exact h3
        | _ => cases ho
      obtain ⟨z', hs, hzi, hzo, S'⟩ := T.v.st.freeze hF
      have hset : ∀ {j : Nat} {k' : Cell}, (ρ.set i (frzC k))[j]? = some k' → j ≠ i → ρ[j]? = some k' := fun {j k'} e hj => by
        rw [List.getElem?_set_ne (fun q => hj q.symm)] at e; exact e
      have hseti : ∀ {k' : Cell}, (ρ.set i (frzC k))[i]? = some k' → k' = frzC k := fun {k'} e => by
        rw [List.getElem?_set] at e
        simp only [if_true] at e
        split at e <;> cases e
        rfl
      have nf : isOwn (frzC k) = false := by cases k <;> rfl
      refine kGG ?_; clear kGG
      refine ⟨z', ⟨hs, fun a ha => ?_⟩, ⟨S', T.v.kind, T.v.glob, T.v.blt, T.v.fL, T.v.fC, fun j y k' hy e => ?_⟩, by rw [List.length_set]; exact T.len, T.keep, T.gF, T.gL, ?_, T.ns, fun x hx => ?_, T.cx, T.cd, fun j k' e ho' => ?_, fun j j' k₁ k₂ e1 e2 o1 o2 e => ?_⟩
      · by_cases q : a = ad i
        · right; rw [q]; exact gi
        · left; rw [hzo a q] at ha; exact ha
      · by_cases hj : j = i
        · subst hj
          obtain rfl := hseti e
          obtain rfl := Option.some.inj (hy.symm.trans hni)
          cases k with
          | own d =>
            refine gen ?_; intro GG kGG
            obtain ⟨q1, q2, q3, q4, o, q5, q6⟩ := H
            refine kGG ?_; clear kGG
            exact ⟨_, q1, (q6.mono hs).rep (by rw [hzi]; exact q5) q4⟩
          | ob ds =>
            refine gen ?_; intro GG kGG
            obtain ⟨v, h1, h2, h3, x, dx, od, v1, v2, v3, v5, d1, d2, d3, bs, d5, o, rfl, rfl, e3, e4, e5, e6, e7, vs', m', rfl, e8⟩ := H
            refine kGG ?_; clear kGG
            refine ⟨_, h1, .body (hs _ _ e3) (hs _ _ e4) e5 ?_⟩
            cases e6 with | cons r1 e6 => cases e6 with | cons r2 e6 => cases e6 with | cons r3 e6 => cases e6 with | cons r5 _ =>
            exact .cons (r1.mono hs) (.cons (r2.mono hs) (.cons (r3.mono hs) (.cons (.list (by rw [hzi]; exact e7) (e8.mono hs)) (.cons (r5.mono hs) .nil))))
          | _ => cases ho
        · have e' := hset e hj
          have H' := T.v.vars j y k' hy e'
          have nz : isOwn k' = true → z'.get? (ad j) = z.get? (ad j) := fun o' => hzo _ fun q => hj (T.od j i k' k e' hk o' ho q)
          cases k' with
          | un => trivial
          | frz d => obtain ⟨v, h1, h2⟩ := H'; exact ⟨v, h1, h2.mono hs⟩
          | own d => obtain ⟨h1, h2, h3, h4, o, h5, h6⟩ := H'; exact ⟨h1, by rw [nz rfl]; exact h2, h3, h4, o, h5, h6.mono hs⟩
          | ob ds => obtain ⟨v, h1, h2, h3, h4⟩ := H'; exact ⟨v, h1, by rw [nz rfl]; exact h2, h3, h4.keep hs fun o e => e⟩
      · rw [hzo _ fun q => Li q.symm]; exact T.zL
      · obtain ⟨a, w, h1, h2, h3, h4, h5⟩ := T.cel x hx
        refine ⟨a, w, h1, h2, h3, ?_, h5⟩
        rw [hzo _ fun q => ?_]
        · exact h4
        · obtain ⟨o, q1, q2⟩ := h5
          rw [q, ei1] at q1; cases q1
          exact orep_not_cell ei2 q2
      · by_cases hj : j = i
        · subst hj
          obtain rfl := hseti e
          rw [nf] at ho'; cases ho'
        · exact T.own j k' (hset e hj) ho'
      · by_cases h1 : j = i
        · subst h1
          obtain rfl := hseti e1
          rw [nf] at o1; cases o1
        · by_cases h2 : j' = i
          · subst h2
            obtain rfl := hseti e2
            rw [nf] at o2; cases o2
          · exact T.od j j' k₁ k₂ (hset e1 h1) (hset e2 h2) o1 o2 e
    · refine ⟨z, .refl, same hk ?_⟩
      cases k <;> first | rfl | exact absurd rfl ho
noncomputable def sfrz (i : Nat) (h : SF) : SF := fun ρ σ => h (frzAt ρ i) σ
theorem SSs.frz {i : Nat} {st : List Stmt} {h : SF} (k : SSs c n sc nm wr st h) : SSs c n sc nm wr st (sfrz i h) := by
  intro A env g z s ρ ad σ fl ρ' σ' R hs T hf
  refine qgen ?_; intro QQ kQ
  obtain ⟨z₁, sp, T₁⟩ := T.freeze i
  exact wpAny_mono (k R hs T₁ hf) (fun w s₂ hmm => by obtain ⟨z₂, ad₂, p₂, T₂, r₂⟩ := hmm; exact (kQ _ _ ⟨z₂, ad₂, sp.trans p₂, T₂, r₂⟩)) fun _ _ x => x
end
end Mine
end
section
open PySem PySem.Calls PySem.W PyProof.Rows
namespace Mine
/-! ### while -/
noncomputable def whileL (t : TX) (b : SF) : Nat → SF
  | 0 => fun _ _ => none
  | k + 1 => fun ρ σ => match t ρ σ with
    | some (false, σ) => some (.next, ρ, σ)
    | some (true, σ) => match b ρ σ with
      | some (.next, ρ₂, σ₂) => whileL t b k ρ₂ σ₂
      | some (.cont, ρ₂, σ₂) => whileL t b k ρ₂ σ₂
      | some (.brk, ρ₂, σ₂) => some (.next, ρ₂, σ₂)
      | some (.ret d, ρ₂, σ₂) => some (.ret d, ρ₂, σ₂)
      | none => none
    | none => none
theorem whileL_succ {t : TX} {b : SF} {k : Nat} {ρ : Vars} {σ : Src} : whileL t b (k + 1) ρ σ = match t ρ σ with
    | some (false, σ) => some (.next, ρ, σ)
    | some (true, σ) => match b ρ σ with
      | some (.next, ρ₂, σ₂) => whileL t b k ρ₂ σ₂
      | some (.cont, ρ₂, σ₂) => whileL t b k ρ₂ σ₂
      | some (.brk, ρ₂, σ₂) => some (.next, ρ₂, σ₂)
      | some (.ret d, ρ₂, σ₂) => some (.ret d, ρ₂, σ₂)
      | none => none
    | none => none := rfl
section
variable {c : Cx} {n : Nat} {sc : Scope} {nm : List Str} {wr : List Str}
inductive WhInv (c : Cx) (g : Addr → Option Obj) (z : Heap) (wr : List Str) (env : Env) (nm : List Str) (run : Nat → SF) (y : Fl × Vars × Src) (m : Nat) (s' : Shared) : Prop
  | mk (z' : Heap) (ρ₁ : Vars) (ad₁ : Nat → Addr) (σ₁ : Src) (sp : SPost c g z z') (T : SSt c g wr z' env s' nm ρ₁ ad₁ σ₁) (hrun : run m ρ₁ σ₁ = some y) : WhInv c g z wr env nm run y m s'
theorem SS.whiles {t : Expr} {b : List Stmt} {pos : Pos} {tt : TX} {fb : SF} (k : Nat) (h1 : ST c n sc nm t tt) (h2 : SSs c n sc nm wr b fb) : SS c n sc nm wr (.While t b [] pos) (whileL tt fb k) := by
  intro A env g z s ρ ad σ fl ρ' σ' R hsc T hf
  refine qgen ?_; intro QQ kQ
  refine wpAny_While ?_
  let Inv : Nat → Shared → Prop := WhInv c g z wr env nm (whileL tt fb) (fl, ρ', σ')
  refine codeAny_whileLoop Inv (fun m s' hI => ?_) k ⟨z, ρ, ad, σ, .refl, T, hf⟩
  obtain ⟨z₁, ρ₁, ad₁, σ₁, sp, T₁, hrun⟩ := hI
  cases m with
  | zero => cases hrun
  | succ m =>
    rw [whileL_succ] at hrun
    split at hrun
    · rename_i σ₂ ht
      cases hrun
      refine wpAny_mono (h1 R hsc T₁.v ht) (fun v s₂ hv => ?_) fun _ _ x => x.elim
      obtain ⟨rfl, z₂, p⟩ := hv
      rw [if_neg (by simp)]
      exact wpAny_execs_nil (kQ _ _ ⟨z₂, ad₁, sp.trans (T₁.spost p), T₁.post p, .next⟩)
    · rename_i σ₂ ht
      refine wpAny_mono (h1 R hsc T₁.v ht) (fun v s₂ hv => ?_) fun _ _ x => x.elim
      obtain ⟨rfl, z₂, p⟩ := hv
      rw [if_pos rfl]
      have sp₂ := sp.trans (T₁.spost p)
      cases hb : fb ρ₁ σ₂ with
      | none => rw [hb] at hrun; cases hrun
      | some y =>
        obtain ⟨fl₅, ρ₃, σ₃⟩ := y
        rw [hb] at hrun
        refine wpAny_mono (h2 R hsc (T₁.post p) hb) (fun w s₃ hmm => ?_) fun _ _ x => x.elim
        obtain ⟨z₃, ad₃, sp₃, T₃, r⟩ := hmm
        cases r with
        | next => exact ⟨m, Nat.lt_succ_self m, z₃, ρ₃, ad₃, σ₃, sp₂.trans sp₃, T₃, hrun⟩
        | cont => exact ⟨m, Nat.lt_succ_self m, z₃, ρ₃, ad₃, σ₃, sp₂.trans sp₃, T₃, hrun⟩
        | brk => cases hrun; exact (kQ _ _ ⟨z₃, ad₃, sp₂.trans sp₃, T₃, .next⟩)
        | ret r => cases hrun; exact (kQ _ _ ⟨z₃, ad₃, sp₂.trans sp₃, T₃, .ret r⟩)
    · cases hrun
/-! ### x, y = e, f  (stored from behind) -/
noncomputable def CEnt (c : Cx) (z : Heap) (O : Addr → Option Obj) (v : Value) (k : Cell) (a : Addr) : Prop := match k with
  | .frz d => Rep c z v d
  | .own d => v = .ref a ∧ z.get? a = none ∧ Fine c a ∧ (a == sysModules) = false ∧ ∃ o, O a = some o ∧ ORep c z o d
  | _ => False
abbrev Ent := Value × Cell × Addr
abbrev LCf := Vars → Src → Option (List Cell × Src)
noncomputable def SLC (c : Cx) (n : Nat) (sc : Scope) (nm : List Str) (es : List Expr) (f : LCf) : Prop :=
  ∀ ⦃A env z s ρ ad σ ks σ'⦄ ⦃pos : Pos⦄, Room A n → env.scope = sc → VSt c z env s nm ρ ad σ → f ρ σ = some (ks, σ') →
    wpAny (model c.prog c.w) A (spliced (backTo pos (starEach es env))) (fun vs s' => ∃ (z' : Heap) (L : List Ent), EPost c z s z' s' σ' ∧ L.map (fun e : Ent => e.1) = vs ∧ L.map (fun e : Ent => e.2.1) = ks ∧ (∀ e ∈ L, CEnt c z' s'.heap.get? e.1 e.2.1 e.2.2) ∧
      (∀ e ∈ L, isOwn e.2.1 = true → s.heap.get? e.2.2 = none) ∧ L.Pairwise (fun e e' => isOwn e.2.1 = true → isOwn e'.2.1 = true → e.2.2 ≠ e'.2.2)) no2 s
noncomputable def lcnil : LCf := fun _ σ => some ([], σ)
noncomputable def lccons (f : CXf) (g : LCf) : LCf := fun ρ σ => match f ρ σ with
  | some (.frz d, σ) => match g ρ σ with
    | some (ks, σ) => some (.frz d :: ks, σ)
    | none => none
  | some (.own d, σ) => match g ρ σ with
    | some (ks, σ) => some (.own d :: ks, σ)
    | none => none
  | _ => none
theorem SLC.nil : SLC c n sc nm [] lcnil := by
  intro A env z s ρ ad σ ks σ' pos R hs V hf
  refine qgen ?_; intro QQ kQ
  cases hf
  exact wpAny_items_nil (kQ _ _ ⟨z, [], .refl V.st, rfl, rfl, fun _ h => by simp at h, fun _ h => by simp at h, .nil⟩)
theorem CEnt.post {z z' : Heap} {s s' : Shared} {σ' : Src} (p : EPost c z s z' s' σ') {v : Value} {k : Cell} {a : Addr} (h : CEnt c z s.heap.get? v k a) : CEnt c z' s'.heap.get? v k a := by
  cases k with
  | frz d => exact Rep.mono p.zz h
  | own d => obtain ⟨e, h1, h2, h3, o, h4, h5⟩ := h; exact ⟨e, off_keep p h1 h4, h2, h3, o, p.hk _ _ h2 h4, h5.mono p.zz⟩
  | _ => exact h.elim
theorem SLC.cons {e : Expr} {es : List Expr} {f : CXf} {g : LCf} (h1 : SC c n sc nm e f) (h2 : SLC c n sc nm es g) (he : ∀ env, starEach (e :: es) env = (false, eval e env) :: starEach es env := by intro; rfl) :
    SLC c n sc nm (e :: es) (lccons f g) := by
  intro A env z s ρ ad σ ks σ' pos R hs V hf
  have key : ∀ {k : Cell} {σ₁ : Src} {ks' : List Cell}, f ρ σ = some (k, σ₁) → g ρ σ₁ = some (ks', σ') → ks = k :: ks' → (∀ ds, k ≠ .ob ds) → wpAny (model c.prog c.w) A (spliced (backTo pos (starEach (e :: es) env))) (fun vs s' => ∃ (z' : Heap) (L : List Ent), EPost c z s z' s' σ' ∧ L.map (fun e : Ent => e.1) = vs ∧ L.map (fun e : Ent => e.2.1) = ks ∧ (∀ e ∈ L, CEnt c z' s'.heap.get? e.1 e.2.1 e.2.2) ∧
      (∀ e ∈ L, isOwn e.2.1 = true → s.heap.get? e.2.2 = none) ∧ L.Pairwise (fun e e' => isOwn e.2.1 = true → isOwn e'.2.1 = true → e.2.2 ≠ e'.2.2)) no2 s := by
    intro k σ₁ ks' hk hks e0 hob
    subst e0
    refine wpAny_items_cons (monoX (h1 R hs V hk) fun v s₁ z₁ p hmm => ?_) (he env)
    obtain ⟨a, r⟩ := hmm
    have r0 : CEnt c z₁ s₁.heap.get? v k a ∧ (isOwn k = true → s.heap.get? a = none ∧ ∃ o, s₁.heap.get? a = some o) := by
      cases k with
      | un => exact r.elim
      | frz d => exact ⟨r, fun h => by cases h⟩
      | own d => obtain ⟨e1, e2, e3, e4, e5, o, e6, e7⟩ := r; exact ⟨⟨e1, e3, e4, e5, o, e6, e7⟩, fun _ => ⟨e2, o, e6⟩⟩
      | ob ds => exact absurd rfl (hob ds)
    refine wpAny_mono (h2 R hs (V.post p) hks) (fun vs s₂ hmm => ?_) fun _ _ x => x
    obtain ⟨z₂, L, p₂, q1, q2, q3, q4, q5⟩ := hmm
    refine ⟨z₂, (v, k, a) :: L, p.trans p₂, by rw [List.map_cons, q1], by rw [List.map_cons, q2], ?_, ?_, ?_⟩
    · intro e' he'
      rcases List.mem_cons.mp he' with rfl | he'
      · exact r0.1.post p₂
      · exact q3 e' he'
    · intro e' he' ho
      rcases List.mem_cons.mp he' with rfl | he'
      · exact (r0.2 ho).1
      · exact old_none p.st p (q4 e' he' ho)
    · refine List.Pairwise.cons (fun e' he' o1 o2 q => ?_) q5
      obtain ⟨o, e6⟩ := (r0.2 o1).2
      have := q4 e' he' o2
      have q' : a = e'.2.2 := q
      rw [← q', e6] at this; cases this
  unfold lccons at hf
  split at hf <;> try cases hf
  · rename_i d σ₁ hd
    first | (refine oIf hf ?_; clear hf; intro hks hf; cases hf) | ((split at hf <;> cases hf); rename_i hks)
    exact key hd hks rfl fun _ q => by cases q
  · rename_i d σ₁ hd
    first | (refine oIf hf ?_; clear hf; intro hks hf; cases hf) | ((split at hf <;> cases hf); rename_i hks)
    exact key hd hks rfl fun _ q => by cases q
abbrev Sto := Str × Nat × Ent
noncomputable def gx (g O : Addr → Option Obj) (M : List Sto) (a : Addr) : Option Obj := if (M.any fun e => isOwn e.2.2.2.1 && e.2.2.2.2 == a) = true then O a else g a
noncomputable def setC (ρ : Vars) : List (Nat × Cell) → Vars
  | [] => ρ
  | p :: ps => setC (ρ.set p.1 p.2) ps
theorem store_list (hnd : nm.Nodup) {g O : Addr → Option Obj} {z : Heap} {env : Env} {σ : Src} {Md : Model} {A : Around} : ∀ (M : List Sto) {s : Shared} {ρ : Vars} {ad : Nat → Addr}, env.scope = sc →
    (∀ e ∈ M, nm[e.2.1]? = some e.1 ∧ (sc.names.lookup e.1 = some .local ∨ e.1 ∈ wr) ∧ CEnt c z O e.2.2.1 e.2.2.2.1 e.2.2.2.2 ∧ (isOwn e.2.2.2.1 = true → g e.2.2.2.2 = none ∧ e.2.2.2.2 ≠ env.locals)) →
    M.Pairwise (fun e e' => isOwn e.2.2.2.1 = true → isOwn e'.2.2.2.1 = true → e.2.2.2.2 ≠ e'.2.2.2.2) → SSt c (gx g O M) wr z env s nm ρ ad σ →
    wpAny Md A (assignInOrder (M.map fun e => bindName env e.1) (M.map fun e => e.2.2.1)) (fun _ s' => ∃ ad', SSt c g wr z env s' nm (setC ρ (M.map fun e => (e.2.1, e.2.2.2.1))) ad' σ) no2 s
:= by
  intro M
  induction M with
  | nil => exact fun hs hM hP T => wpAny_pure ⟨_, T⟩
  | cons e M ih =>
    intro s ρ ad hs hM hP T
    obtain ⟨x, i, v, k, a⟩ := e
    obtain ⟨hi, hx, hE, hg⟩ := hM _ (.head _)
    obtain ⟨hP1, hP2⟩ := List.pairwise_cons.mp hP
    have nM : isOwn k = true → (M.any fun e => isOwn e.2.2.2.1 && e.2.2.2.2 == a) = false := fun ho => by
      rw [List.any_eq_false]
      intro e he q
      have q' := Bool.and_eq_true_iff.mp q
      exact hP1 e he ho q'.1 (eq_of_beq q'.2).symm
    have le : ∀ b o, gx g O M b = some o → gx g O ((x, i, v, k, a) :: M) b = some o := fun b o e => by
      unfold gx at e ⊢
      rw [List.any_cons]
      by_cases h1 : (isOwn k && a == b) = true
      · have h2 := Bool.and_eq_true_iff.mp h1
        have h3 := eq_of_beq h2.2
        subst h3
        rw [nM h2.1, if_neg (by simp), (hg h2.1).1] at e
        cases e
      · have h1' : (isOwn k && a == b) = false := Bool.eq_false_iff.mpr h1
        simp only [h1', Bool.false_or]
        exact e
    have hO : isOwn k = true → gx g O ((x, i, v, k, a) :: M) a = O a := fun ho => by
      unfold gx
      rw [List.any_cons]
      simp [ho]
    have T₁ := T.weaken le
    have N : NewCell c (gx g O M) z env s.heap ρ ad i v k a :=
      { frz := fun d e => by subst e; exact hE
        ownd := fun d e => by
          subst e
          obtain ⟨e1, e2, e3, e4, o, e5, e6⟩ := hE
          exact ⟨e1, e2, e3, e4, o, T.keep a o (by rw [hO rfl]; exact e5), e6⟩
        ob := fun ds e => by subst e; exact hE.elim
        gn := fun ho => ⟨by unfold gx; rw [nM ho, if_neg (by simp)]; exact (hg ho).1, (hg ho).2⟩
        ap := fun ho j k' hj hk' ho' q => by
          obtain ⟨e1, _⟩ := T.own j k' hk' ho'
          rw [q, hO ho] at e1
          cases k with
          | own d => obtain ⟨_, _, _, _, o, e5, _⟩ := hE; have e5' : O a = some o := e5; rw [e1] at e5'; cases e5'
          | frz d => cases ho
          | _ => exact hE.elim }
    show wpAny Md A (do holding (M.map fun e => e.2.2.1) (bindName env x v); assignInOrder (M.map fun e => bindName env e.1) (M.map fun e => e.2.2.1)) _ _ s
    refine wpAny_bind (wpAny_holding (bindName_ (T₁.store hnd hi (by rw [Env.kindOf, hs]; exact hx) N fun s' T' => ?_)))
    exact ih hs (fun e he => hM e (.tail _ he)) hP2 T'
noncomputable def spar (is : List Nat) (f : LCf) : SF := fun ρ σ => match f ρ σ with
  | some (ks, σ) => if ks.length = is.length then some (.next, setC ρ (is.zip ks).reverse, σ) else none
  | none => none
theorem SS.par (hnd : nm.Nodup) {ts es : List Expr} {xs : List Str} {is : List Nat} {k k2 : Nat} {tp vp pos : Pos} {f : LCf} (hl : xs.length = is.length) (hsm : is.length ≤ 1000)
    (hN : ∀ e ∈ xs.zip is, nm[e.2]? = some e.1 ∧ (sc.names.lookup e.1 = some .local ∨ e.1 ∈ wr)) (h : SLC c n sc nm es f)
    (hsw : ∀ env, env.scope = sc → swappedStores [.Tuple ts k tp] (.Tuple es k2 vp) env = pure (some xs))
    (hs1 : ∀ env, swapsWithSole [.Tuple ts k tp] (.Tuple es k2 vp) pos.line env = pure false := by intro _; rfl) :
    SS c n sc nm wr (.Assign [.Tuple ts k tp] (.Tuple es k2 vp) pos) (spar is f) := by
  intro A env g z s ρ ad σ fl ρ' σ' R hs T hf
  unfold spar at hf
  first | (refine omD hf ?_; clear hf; intro ks σ₁ hks hf; try cases hf) | (refine omL hf ?_; clear hf; intro ks σ₁ hks hf; try cases hf) | (refine omB hf ?_; clear hf; intro ks σ₁ hks hf; try cases hf) | (refine omC hf ?_; clear hf; intro ks σ₁ hks hf; try cases hf) | (refine omK hf ?_; clear hf; intro ks σ₁ hks hf; try cases hf) | (refine omI hf ?_; clear hf; intro ks σ₁ hks hf; try cases hf) | (refine omT hf ?_; clear hf; intro ks σ₁ hks hf; try cases hf) | (refine omS hf ?_; clear hf; intro ks σ₁ hks hf; try cases hf) | ((split at hf <;> try cases hf); rename_i ks σ₁ hks)
  first | (refine oIf hf ?_; clear hf; intro hkl hf; cases hf) | ((split at hf <;> cases hf); rename_i hkl)
  refine Assign_Tuple_swapped (names := xs) ?_ (hs1 env) (hsw env hs)
  refine wpAny_Tuple (wpAny_mono (h R hs T.v hks) (fun vs s₁ hmm => ?_) fun _ _ x => x)
  obtain ⟨z₁, L, p, q1, q2, q3, q4, q5⟩ := hmm
  have hLl : L.length = ks.length := by rw [← q2, List.length_map]
  have hvl : vs.length = L.length := by rw [← q1, List.length_map]
  refine ⟨small_fits (by lia), ?_⟩
  have p1 := EPost.grown (tk := s₁.toks) p.st (h' := s₁.heap.push { cls := .type "tuple", data := .seq vs.toArray }) fun a o e => Heap.get?_push_of_some _ e
  have ht : (s₁.heap.push { cls := .type "tuple", data := .seq vs.toArray }).IsTuple s₁.heap.objs.size vs.toArray := ⟨_, Heap.get?_push_size _ rfl, rfl, 0, rfl⟩
  generalize (s₁.heap.push { cls := .type "tuple", data := .seq vs.toArray }) = H1 at *
  rw [show xs.length = vs.toArray.size by rw [List.size_toArray]; lia]
  refine unpackItems_tuple (s := { s₁ with heap := H1 }) R.1 ht fun h' he => ?_
  have P := (p.trans p1).trans (EPost.grown (tk := s₁.toks) p1.st (grow_of_ext he))
  have pp := p1.trans (EPost.grown (tk := s₁.toks) p1.st (grow_of_ext he))
  have T₁ := T.post P
  let M0 : List Sto := (xs.zip is).zipWith (fun a e => (a.1, a.2, e)) L
  have hz : (xs.zip is).length = L.length := by rw [List.length_zip]; lia
  have e1 : xs.reverse.map (fun n => bindName env n) = M0.reverse.map fun e => bindName env e.1 := by
    rw [List.map_reverse, List.map_reverse]
    congr 1
    show _ = List.map _ (List.zipWith _ _ _)
    rw [List.map_zipWith]
    apply List.ext_getElem
    · simp; lia
    · intro j h1 h2
      simp
  have e2 : vs.toArray.toList.reverse = M0.reverse.map fun e => e.2.2.1 := by
    rw [List.map_reverse]
    congr 1
    show vs = List.map _ (List.zipWith _ _ _)
    rw [List.map_zipWith, ← q1]
    apply List.ext_getElem
    · simp; lia
    · intro j h1 h2
      simp
  have e3 : (is.zip ks).reverse = M0.reverse.map fun e => (e.2.1, e.2.2.2.1) := by
    rw [List.map_reverse]
    congr 1
    show _ = List.map _ (List.zipWith _ _ _)
    rw [List.map_zipWith, ← q2]
    apply List.ext_getElem
    · simp; lia
    · intro j h1 h2
      simp
  rw [e1, e2, e3]
  have hmem : ∀ e ∈ M0.reverse, (e.1, e.2.1) ∈ xs.zip is ∧ e.2.2 ∈ L := fun e he' => by
    have he'' := List.mem_reverse.mp he'
    obtain ⟨j, hj, rfl⟩ := List.getElem_of_mem he''
    simp only [M0, List.length_zipWith] at hj
    have ej : M0[j]'(by simp only [M0, List.length_zipWith]; exact hj) = (((xs.zip is)[j]'(by lia)).1, ((xs.zip is)[j]'(by lia)).2, L[j]'(by lia)) := by simp [M0]
    rw [ej]
    exact ⟨List.getElem_mem _, List.getElem_mem _⟩
  have fr : ∀ e ∈ L, isOwn e.2.1 = true → ∀ b, (s.heap.get? b ≠ none) → b ≠ e.2.2 := fun e he' ho b hb q => hb (by rw [q]; exact q4 e he' ho)
  have T₂ : SSt c (gx g h'.get? M0.reverse) wr z₁ env { s₁ with heap := h', toks := s₁.toks } nm ρ ad σ' := by
    have isB : ∀ a, (M0.reverse.any fun e => isOwn e.2.2.2.1 && e.2.2.2.2 == a) = true → ∃ e ∈ L, isOwn e.2.1 = true ∧ e.2.2 = a := fun a ha => by
      obtain ⟨e, h1, h2⟩ := List.any_eq_true.mp ha
      have h3 := Bool.and_eq_true_iff.mp h2
      exact ⟨e.2.2, (hmem e h1).2, h3.1, eq_of_beq h3.2⟩
    refine T₁.beside (s := { s₁ with heap := h', toks := s₁.toks }) (B := fun a => (M0.reverse.any fun e => isOwn e.2.2.2.1 && e.2.2.2.2 == a) = true) (g' := gx g h'.get? M0.reverse) (h' := h') (tk := s₁.toks) (fun a o _ e => e) (fun a ha => ?_) (fun a ha => ?_) (fun ha => ?_) (fun j k' e ho ha => ?_) (fun x a e ha => ?_)
      (fun a ha => if_neg ha) (fun a o ha e => by unfold gx at e; rw [if_pos ha] at e; exact e) (fun a ha e => ?_) (fun ha => ?_)
    · obtain ⟨e, he', ho, rfl⟩ := isB a ha
      have := (q3 e he').post pp
      obtain ⟨v, k, b⟩ := e
      cases k with
      | own d => exact this.2.1
      | ob ds => exact this.elim
      | _ => cases ho
    · obtain ⟨e, he', ho, rfl⟩ := isB a ha
      exact fine_new T.v.st (q4 e he' ho)
    · obtain ⟨e, he', ho, q⟩ := isB _ ha
      obtain ⟨m, o, es', ep, e0, _⟩ := T.ns
      exact fr e he' ho _ (by rw [e0]; exact fun q => nomatch q) q.symm
    · obtain ⟨e', he', ho', q⟩ := isB _ ha
      have hj : j < nm.length := Nat.lt_of_lt_of_le (List.getElem?_eq_some_iff.mp e).1 T.len
      obtain ⟨o, d, e0, _⟩ := T.own_obj (List.getElem?_eq_getElem hj) e ho
      exact fr e' he' ho' _ (by rw [e0]; exact fun q => nomatch q) q.symm
    · obtain ⟨e', he', ho', q⟩ := isB _ ha
      obtain ⟨w, o, e0, _⟩ := T.cx x a e
      exact fr e' he' ho' _ (by rw [e0]; exact fun q => nomatch q) q.symm
    · obtain ⟨e', he', ho', q⟩ := isB _ ha
      obtain ⟨t, u, o, e0, _⟩ := (T.v.st.src a e).at_
      exact fr e' he' ho' _ (by rw [e0]; exact fun q => nomatch q) q.symm
    · obtain ⟨e', he', ho', q⟩ := isB _ ha
      obtain ⟨ps, e0, _⟩ := T.v.st.tab
      exact fr e' he' ho' _ (by rw [e0]; exact fun q => nomatch q) q.symm
  have hpw : M0.reverse.Pairwise (fun e e' => isOwn e.2.2.2.1 = true → isOwn e'.2.2.2.1 = true → e.2.2.2.2 ≠ e'.2.2.2.2) := by
    rw [List.pairwise_reverse, List.pairwise_iff_getElem]
    intro j1 j2 h1 h2 hlt
    have l1 : M0.length = L.length := by simp only [M0, List.length_zipWith]; lia
    have g1 : M0[j1].2.2 = L[j1]'(by lia) := by simp [M0]
    have g2 : M0[j2].2.2 = L[j2]'(by lia) := by simp [M0]
    rw [g1, g2]
    intro o1 o2 q
    exact List.pairwise_iff_getElem.mp q5 j1 j2 (by lia) (by lia) hlt o2 o1 q.symm
  refine wpAny_mono (store_list hnd M0.reverse hs (fun e he' => ?_) hpw T₂) (fun _ s' ⟨ad', T'⟩ => ⟨z₁, ad', T.spost P, T', .next⟩) fun _ _ x => x
  obtain ⟨m1, m2⟩ := hmem e he'
  obtain ⟨n1, n2⟩ := hN _ m1
  refine ⟨n1, n2, (q3 _ m2).post pp, fun ho => ⟨?_, ?_⟩⟩
  · cases e0 : g e.2.2.2.2 with
    | none => rfl
    | some o => exact absurd rfl (fr _ m2 ho _ (by rw [T.keep _ _ e0]; exact fun q => nomatch q))
  · intro q
    obtain ⟨m, o, es', ep, e0, _⟩ := T.ns
    exact fr _ m2 ho _ (by rw [e0]; exact fun q => nomatch q) q.symm
end
end Mine
end
section
open PySem PySem.Calls PySem.W PyProof.Rows
namespace Mine
section
variable {c : Cx} {n : Nat} {sc : Scope} {nm : List Str} {wr : List Str}
/-- something fresh becomes data -/
theorem SSt.freezeAt {g : Addr → Option Obj} {z : Heap} {env : Env} {s : Shared} {ρ : Vars} {ad : Nat → Addr} {σ : Src} (T : SSt c g wr z env s nm ρ ad σ) {b : Addr} (hF : Fine c b) (hg : g b = none) (hL : b ≠ env.locals)
    (ho : ∀ i k, ρ[i]? = some k → isOwn k = true → ad i ≠ b) (hc : ∀ x a, env.cells.lookup x = some a → a ≠ b) : ∃ z', SPost c g z z' ∧ z'.get? b = s.heap.get? b ∧ (∀ a, a ≠ b → z'.get? a = z.get? a) ∧ SSt c g wr z' env s nm ρ ad σ := by
  refine gen ?_; intro GG kGG
  obtain ⟨z', hs, hzi, hzo, S'⟩ := T.v.st.freeze hF
  refine kGG ?_; clear kGG
  refine ⟨z', ⟨hs, fun a ha => ?_⟩, hzi, hzo, ⟨S', T.v.kind, T.v.glob, T.v.blt, T.v.fL, T.v.fC, fun j y k' hy e => ?_⟩, T.len, T.keep, T.gF, T.gL, ?_, T.ns, fun x hx => ?_, T.cx, T.cd, T.own, T.od⟩
  · by_cases q : a = b
    · right; rw [q]; exact hg
    · left; rw [hzo a q] at ha; exact ha
  · have H' := T.v.vars j y k' hy e
    have nz : isOwn k' = true → z'.get? (ad j) = z.get? (ad j) := fun o' => hzo _ (ho j k' e o')
    cases k' with
    | un => trivial
    | frz d => obtain ⟨v, h1, h2⟩ := H'; exact ⟨v, h1, h2.mono hs⟩
    | own d => obtain ⟨h1, h2, h3, h4, o, h5, h6⟩ := H'; exact ⟨h1, by rw [nz rfl]; exact h2, h3, h4, o, h5, h6.mono hs⟩
    | ob ds => obtain ⟨v, h1, h2, h3, h4⟩ := H'; exact ⟨v, h1, by rw [nz rfl]; exact h2, h3, h4.keep hs fun o e => e⟩
  · rw [hzo _ hL.symm]; exact T.zL
  · obtain ⟨a, w, h1, h2, h3, h4, h5⟩ := T.cel x hx
    exact ⟨a, w, h1, h2, h3, by rw [hzo _ (hc x a h2)]; exact h4, h5⟩
/-- enumerate(e) gone through -/
noncomputable def SIE (c : Cx) (n : Nat) (sc : Scope) (nm : List Str) (e : Expr) (f : IX) : Prop :=
  ∀ ⦃A env z s ρ ad σ ds σ'⦄, Room A n → env.scope = sc → VSt c z env s nm ρ ad σ → f ρ σ = some (ds, σ') →
    wpAny (model c.prog c.w) A (eval e env) (fun x s₁ => wpAny (model c.prog c.w) A (pyIter x) (fun it s₂ => ∃ z', EPost c z s z' s₂ σ' ∧ ∃ (e it' l : Addr) (vs : List Value), it = .ref e ∧ e ≠ it' ∧ l ≠ e ∧ l ≠ it' ∧ (∃ old, IsEnum s₂.heap e it' (0 : Nat) old) ∧
      s₂.heap.IsListIter it' l 0 ∧ s₂.heap.IsList l vs.toArray ∧ (∃ o, z'.get? l = some o) ∧ RepL c z' vs ds ∧ s.heap.get? e = none ∧ s.heap.get? it' = none ∧ z'.get? e = none ∧ z'.get? it' = none) no2 s₁) no2 s
noncomputable def ienum (f : EX) : IX := fun ρ σ => match f ρ σ with
  | some (.list ds, σ) => some (ds, σ)
  | _ => none
theorem SIE.enum (ok : c.Ok) {x : Str} {e : Expr} {p pos : Pos} {f : EX} (gb : GBi c x (.type "enumerate")) (k : SX c n sc nm e f)
    (hx : sc.names.lookup x = some .globalImplicit := by rfl) (hs : ∀ env, starEach [e] env = [(false, eval e env)] := by intro _; rfl) (hd : (x == ("__debug__" : Str)) = false := by decide +kernel) :
    SIE c n sc nm (.Call (.Name x p) [e] [] pos) (ienum f) := by
  intro A env z s ρ ad σ ds σ' R hsc V hf
  unfold ienum at hf
  first | (refine oIf hf ?_; clear hf; intro hd1 hf; cases hf) | ((split at hf <;> cases hf); rename_i hd1)
  refine Call_name1 (hs env) (name_bi ok gb V (by rw [hsc]; exact hx) hd ?_)
  refine PySem.callWith_type1 (monoX (k R hsc V hd1) fun v s₁ z₁ p r => ?_)
  refine gen ?_; intro GG kGG
  obtain ⟨l, vs, m, rfl, h1, r1⟩ := r.list_inv
  refine kGG ?_; clear kGG
  refine call_enumerate_1 (p.st.zh _ _ h1) fun h' he hit hsz hk => ?_
  have p₂ := p.trans (EPost.grown (tk := s₁.toks) p.st (h' := h') hk)
  have hl : s₁.heap.get? l = some _ := p.st.zh _ _ h1
  have hll := Heap.lt_size hl
  refine wpAny_pyIter_enum he ⟨z₁, p₂, _, _, l, vs, rfl, Nat.succ_ne_self _, Nat.ne_of_lt (Nat.lt_succ_of_lt hll), Nat.ne_of_lt hll, ⟨_, he⟩, hit, ⟨_, hk _ _ hl, rfl, m, rfl⟩, ⟨_, h1⟩, r1, ?_, ?_, ?_, ?_⟩
  · exact old_none p.st p (get_ge (Nat.le_succ _))
  · exact old_none p.st p (get_size _)
  · exact z_none p.st (get_ge (Nat.le_succ _))
  · exact z_none p.st (get_size _)
noncomputable def enumD : Nat → List D → List D
  | _, [] => []
  | k, d :: ds => .tup [.int (k : Nat), d] :: enumD (k + 1) ds
noncomputable def sforE (fi : IX) (tg : TG) (body : SF) : SF := fun ρ σ => match fi ρ σ with
  | some (ds, σ) => forL tg body (enumD 0 ds) ρ σ
  | none => none
theorem SS.forsE {es : List Expr} {kt : Nat} {tp : Pos} {it : Expr} {b : List Stmt} {pos : Pos} {fi : IX} {tg : TG} {fb : SF} (h1 : SIE c n sc nm it fi) (h2 : STg c n sc nm wr (.Tuple es kt tp) tg) (h3 : SSs c n sc nm wr b fb)
    (hs : ∀ env x, foldedSetIterable it env x = pure x := by intro _ _; rfl) : SS c n sc nm wr (.For (.Tuple es kt tp) it b [] pos) (sforE fi tg fb) := by
  intro A env g z s ρ ad σ fl ρ' σ' R hsc T hf
  refine qgen ?_; intro QQ kQ
  unfold sforE at hf
  first | (refine omD hf ?_; clear hf; intro ds σ₁ hd hf; try cases hf) | (refine omL hf ?_; clear hf; intro ds σ₁ hd hf; try cases hf) | (refine omB hf ?_; clear hf; intro ds σ₁ hd hf; try cases hf) | (refine omC hf ?_; clear hf; intro ds σ₁ hd hf; try cases hf) | (refine omK hf ?_; clear hf; intro ds σ₁ hd hf; try cases hf) | (refine omI hf ?_; clear hf; intro ds σ₁ hd hf; try cases hf) | (refine omT hf ?_; clear hf; intro ds σ₁ hd hf; try cases hf) | (refine omS hf ?_; clear hf; intro ds σ₁ hd hf; try cases hf) | ((split at hf <;> try cases hf); rename_i ds σ₁ hd)
  refine wpAny_For ?_ (hs env)
  refine wpAny_mono (h1 R hsc T.v hd) (fun x s₁ hx => ?_) fun _ _ x => x.elim
  refine wpAny_mono hx (fun it' s₂ hit => ?_) fun _ _ x => x.elim
  refine gen ?_; intro GG kGG
  obtain ⟨z₂, p, e, i, l, vs, rfl, hei, hle, hli, hen, hlit, hll, hzl, rvs, fe, fi', ze, zi⟩ := hit
  have T₂ := T.post p
  have sp₂ := T.spost p
  refine kGG ?_; clear kGG
  let wt : List Addr := [e, i]
  have inwt : ∀ {b : Addr}, b ∈ wt → b = e ∨ b = i := fun {b} hb => by simpa [wt] using hb
  have ewt : e ∈ wt := by simp [wt]
  have iwt : i ∈ wt := by simp [wt]
  have lwt : l ∉ wt := fun q => (inwt q).elim hle hli
  have K_fresh : ∀ b ∈ wt, s.heap.get? b = none := fun b hb => by rcases inwt hb with rfl | rfl <;> assumption
  have K_zoff : ∀ b ∈ wt, z₂.get? b = none := fun b hb => by rcases inwt hb with rfl | rfl <;> assumption
  let St : Nat → Heap → Prop := fun k h => (∃ old, IsEnum h e i (k : Nat) old) ∧ h.IsListIter i l k ∧ h.IsList l vs.toArray
  have K_obj : ∀ k h, St k h → ∀ b ∈ wt, ∃ o, h.get? b = some o := fun k h hmm b hb => by
    obtain ⟨⟨_, h1⟩, ⟨o, h2, _⟩, _⟩ := hmm
    rcases inwt hb with rfl | rfl
    · exact ⟨_, h1⟩
    · exact ⟨_, h2⟩
  have hold : ∀ {a : Addr} {o : Obj}, s.heap.get? a = some o → a ∉ wt := fun {a o} e q => by rw [K_fresh a q] at e; cases e
  have hBL : env.locals ∉ wt := by
    obtain ⟨m, o, es, ep, e, _⟩ := T.ns; exact hold e
  have hBc : ∀ x a, env.cells.lookup x = some a → a ∉ wt := fun x a e => by
    obtain ⟨w, o, e1, _⟩ := T.cx x a e; exact hold e1
  have hBq : ∀ a, a ∈ wt → c.q ≠ some a := fun a ha e => by
    obtain ⟨t, u, o, e1, _⟩ := (T.v.st.src a e).at_; exact hold e1 ha
  have hBP : c.P ∉ wt := by
    obtain ⟨ps, e1, _⟩ := T.v.st.tab; exact hold e1
  have hBF : ∀ a, a ∈ wt → Fine c a := fun a ha => ⟨hBq a ha, fun q => hBP (q ▸ ha)⟩
  have hg : ∀ a, a ∈ wt → g a = none := fun a ha => by
    cases e : g a with
    | none => rfl
    | some o => exact absurd ha (hold (T.keep a o e))
  let gx : Heap → Addr → Option Obj := fun h a => if a ∈ wt then h.get? a else g a
  have gx_in : ∀ h a, a ∈ wt → gx h a = h.get? a := fun h a ha => if_pos ha
  have gx_out : ∀ h a, a ∉ wt → gx h a = g a := fun h a ha => if_neg ha
  have gle : ∀ h a o, g a = some o → gx h a = some o := fun h a o e => by
    by_cases q : a ∈ wt
    · rw [hg a q] at e; cases e
    · rw [gx_out h a q]; exact e
  have out : ∀ {h : Heap} {z z' : Heap}, (∀ b ∈ wt, ∃ o, h.get? b = some o) → SPost c (gx h) z z' → SPost c g z z' := fun {h z z'} ho sp => ⟨sp.zz, fun a ha => (sp.zn a ha).imp id fun e => by
    by_cases q : a ∈ wt
    · exact hg a q
    · rw [gx_out h a q] at e; exact e⟩
  let Inv : Nat → Shared → Prop := FInv c g z z₂ wr env nm wt gx St ds.length (fun k => forL tg fb (enumD k (ds.drop k))) (fl, ρ', σ')
  refine codeAny_forLoop_any Inv (fun m s₃ hI => ?_) ds.length ⟨0, z₂, ρ, ad, σ₁, sp₂, .refl _, K_zoff, ?_, ⟨hen, hlit, hll⟩, Nat.zero_le _, by lia, by simpa using hf⟩
  · obtain ⟨k, z₃, ρ₁, ad₁, σ₂, sp, hsub, hz, T₃, hst, hk, rfl, hrun⟩ := hI
    replace hrun : forL tg fb (enumD k (ds.drop k)) ρ₁ σ₂ = some (fl, ρ', σ') := hrun
    have hob := K_obj k _ hst
    have hBo : ∀ i k', ρ₁[i]? = some k' → isOwn k' = true → ad₁ i ∉ wt := fun i k' e ho q => by
      obtain ⟨e1, _⟩ := T₃.own i k' e ho
      rw [gx_in _ _ q] at e1
      obtain ⟨o, e2⟩ := hob _ q
      rw [e2] at e1; cases e1
    obtain ⟨⟨old, hst1⟩, hst2, hst3⟩ := hst
    have hvl := rvs.length
    by_cases hlt : k < ds.length
    · have hx : vs.toArray[k]? = some (vs[k]'(by lia)) := by rw [List.getElem?_toArray]; exact List.getElem?_eq_getElem _
      refine wpAny_pyNext_enum_item hst1 hst2 hst3 hx hei fun h₁ ho hit₁ hT hsz hk₁ => ?_
      have hdrop : ds.drop k = ds[k] :: ds.drop (k + 1) := List.drop_eq_getElem_cons hlt
      rw [hdrop] at hrun
      simp only [enumD] at hrun
      rw [forL_cons] at hrun
      split at hrun <;> try cases hrun
      rename_i ρ₂ htg
      refine wpAny_letOwnedTupleGo_enum ho fun h' he' hs' => ?_
      refine gen ?_; intro GG kGG
      have hkeep : ∀ b o, b ∉ wt → s₃.heap.get? b = some o → h'.get? b = some o := fun b o hb e0 => by
        have hbe : b ≠ e := fun q => hb (q ▸ ewt)
        have hbi : b ≠ i := fun q => hb (q ▸ iwt)
        exact (hs'.2 b hbe).trans (hk₁ b o hbe hbi e0)
      have hst' : St (k + 1) h' := ⟨⟨_, by simpa using he'⟩, hit₁.at fun o y => (hs'.2 i hei.symm).trans y, hst3.at fun o y => hkeep l o lwt y⟩
      have hTn : s₃.heap.objs.size ∉ wt := fun q => by obtain ⟨o, e0⟩ := hob _ q; exact absurd (Heap.lt_size e0) (Nat.lt_irrefl _)
      have hT' : h'.get? s₃.heap.objs.size = some { cls := .type "tuple", data := .seq #[.int (k : Nat) s₃.toks, vs[k]'(by lia)] } := (hs'.2 s₃.heap.objs.size fun q => hTn (by rw [q]; exact ewt)).trans hT
      have T₄ : SSt c (gx h') wr z₃ env { s₃ with heap := h', toks := s₃.toks + 1 } nm ρ₁ ad₁ σ₂ :=
        T₃.beside (B := fun a => a ∈ wt) (tk := s₃.toks + 1) (fun a o ha e => hkeep a o ha e) hz hBF hBL hBo hBc (fun a ha => by rw [gx_out _ _ ha, gx_out _ _ ha]) (fun a o ha e => by rw [gx_in _ _ ha] at e; exact e) hBq hBP
      have T3F := fine_new T₃.v.st (get_size s₃.heap)
      obtain ⟨z₃', spf, hzT, hzo, T₄'⟩ := T₄.freezeAt T3F (b := s₃.heap.objs.size) (by
          rw [gx_out _ _ hTn]
          cases e0 : g s₃.heap.objs.size with
          | none => rfl
          | some o => exact absurd (Heap.lt_size (T₃.keep _ o (gle _ _ _ e0))) (Nat.lt_irrefl _))
        (fun q => by obtain ⟨m, o, es, ep, e0, _⟩ := T₃.ns; exact Nat.lt_irrefl _ (q ▸ Heap.lt_size e0))
        (fun j k' e0 ho' q => by
          have hj : j < nm.length := Nat.lt_of_lt_of_le (List.getElem?_eq_some_iff.mp e0).1 T₃.len
          obtain ⟨o, d, e1, _⟩ := T₃.own_obj (List.getElem?_eq_getElem hj) e0 ho'
          exact Nat.lt_irrefl _ (q ▸ Heap.lt_size e1))
        (fun x a e0 q => by obtain ⟨w, o, e1, _⟩ := T₃.cx x a e0; exact Nat.lt_irrefl _ (q ▸ Heap.lt_size e1))
      have hz' : ∀ b ∈ wt, z₃'.get? b = none := fun b hb => by rw [hzo b fun q => hTn (q ▸ hb)]; exact hz b hb
      have hsub' : Sub z₂ z₃' := hsub.trans spf.zz
      obtain ⟨v', hv1, hv2⟩ := rvs.get (i := k) (d := ds[k]) (List.getElem?_eq_getElem hlt)
      have hv3 : vs[k]'(by lia) = v' := Option.some.inj ((List.getElem?_eq_getElem (by lia)).symm.trans hv1)
      have rv : Rep c z₃' (.ref s₃.heap.objs.size) (.tup [.int (k : Nat), ds[k]]) := by
        refine .tup (vs := [.int (k : Nat) s₃.toks, v']) (n := 0) (by rw [hzT, ← hv3]; exact hT') (.cons (.int _ _) (.cons (hv2.mono hsub') .nil))
      have sp' := sp.trans (out (K_obj _ _ hst') spf)
      refine kGG ?_; clear kGG
      refine wpAny_mono (h2 R hsc T₄' rv htg) (fun _ s₄ hmm => ?_) fun _ _ x => x.elim
      obtain ⟨z₄, ad₄, sp₄, T₅⟩ := hmm
      have hob' := K_obj _ _ hst'
      have behind : ∀ {s₅ : Shared} {z₅ : Heap} {ρ₅ : Vars} {ad₅ : Nat → Addr} {σ₅ : Src}, SPost c (gx h') z₄ z₅ → SSt c (gx h') wr z₅ env s₅ nm ρ₅ ad₅ σ₅ →
          FBe c g z z₂ wr env nm wt gx St (k + 1) s₅ z₅ ρ₅ ad₅ σ₅ := by
        intro s₅ z₅ ρ₅ ad₅ σ₅ sp₅ T₆
        have same : ∀ b ∈ wt, s₅.heap.get? b = h'.get? b := fun b hb => by
          obtain ⟨o, e⟩ := hob' b hb
          rw [e]
          exact T₆.keep b o (by rw [gx_in _ _ hb]; exact e)
        have egx : gx s₅.heap = gx h' := by
          funext a
          by_cases q : a ∈ wt
          · rw [gx_in _ _ q, gx_in _ _ q, same a q]
          · rw [gx_out _ _ q, gx_out _ _ q]
        have hsub5 : Sub z₂ z₅ := hsub'.trans (sp₄.zz.trans sp₅.zz)
        refine ⟨by rw [egx]; exact T₆, ?_, sp'.trans ((out hob' sp₄).trans (out hob' sp₅)), hsub5, ?_⟩
        · obtain ⟨⟨old', a1⟩, a2, a3⟩ := hst'
          refine ⟨⟨old', (same e ewt).trans a1⟩, a2.at fun o y => (same i iwt).trans y, ?_⟩
          obtain ⟨o', eo⟩ := hzl
          have e1 := T₆.v.st.zh _ _ (hsub5 _ _ eo)
          have e2 := T₂.v.st.zh _ _ eo
          obtain ⟨o3, b1, b2⟩ := hll
          rw [e2] at b1; cases b1
          exact ⟨_, e1, b2⟩
        · intro b hb
          cases e : z₅.get? b with
          | none => rfl
          | some o =>
            exfalso
            obtain ⟨o', eo⟩ := hob' b hb
            rcases (sp₄.trans sp₅).zn b (by rw [e]; exact fun q => nomatch q) with q | q
            · exact q (hz' b hb)
            · rw [gx_in _ _ hb, eo] at q; cases q
      cases hb : fb ρ₂ σ₂ with
      | none => rw [hb] at hrun; cases hrun
      | some y =>
        obtain ⟨fl₅, ρ₅, σ₅⟩ := y
        rw [hb] at hrun
        refine wpAny_mono (h3 R hsc T₅ hb) (fun w s₅ hmm => ?_) fun _ _ x => x.elim
        obtain ⟨z₅, ad₅, sp₅, T₆, r⟩ := hmm
        obtain ⟨a1, a2, a3, a4, a5⟩ := behind sp₅ T₆
        cases r with
        | next => exact ⟨_, Nat.sub_lt_sub_left hlt (Nat.lt_succ_self k), k + 1, z₅, ρ₅, ad₅, σ₅, a3, a4, a5, a1, a2, hlt, rfl, hrun⟩
        | cont => exact ⟨_, Nat.sub_lt_sub_left hlt (Nat.lt_succ_self k), k + 1, z₅, ρ₅, ad₅, σ₅, a3, a4, a5, a1, a2, hlt, rfl, hrun⟩
        | brk => cases hrun; exact (kQ _ _ ⟨z₅, ad₅, a3, a1.weaken (gle _), .next⟩)
        | ret r => cases hrun; exact (kQ _ _ ⟨z₅, ad₅, a3, a1.weaken (gle _), .ret r⟩)
    · have hke : k = ds.length := by lia
      subst hke
      refine wpAny_pyNext_enum_end R.1 hst1 hst2 hst3 (by rw [List.getElem?_toArray]; exact List.getElem?_eq_none (by lia)) fun h' hk' => ?_
      rw [List.drop_length] at hrun
      cases hrun
      refine wpAny_execs_nil ?_
      refine (kQ _ _ ⟨z₃, ad₁, sp, ?_, .next⟩)
      exact T₃.beside (B := fun a => a ∈ wt) (tk := s₃.toks) (fun a o ha e => hk' a o (fun q => ha (q ▸ iwt)) e) hz hBF hBL hBo hBc (fun a ha => by rw [gx_out _ _ ha]) (fun a o ha e => by rw [hg a ha] at e; cases e) hBq hBP
  · refine T₂.beside (s := s₂) (B := fun a => a ∈ wt) (h' := s₂.heap) (tk := s₂.toks) (fun a o _ e => e) K_zoff hBF hBL (fun i k' e ho q => ?_) hBc (fun a ha => gx_out _ _ ha) (fun a o ha e => by rw [gx_in _ _ ha] at e; exact e) hBq hBP
    have hi : i < nm.length := Nat.lt_of_lt_of_le (List.getElem?_eq_some_iff.mp e).1 T.len
    obtain ⟨o, d, e1, _⟩ := T.own_obj (List.getElem?_eq_getElem hi) e ho
    exact hold e1 q
end
end Mine
end
section
open PySem PySem.Calls PySem.W PyProof.Rows
open AutoSeq1 (wpAny_loadPart')
namespace Mine
/-! ### the order of tuples -/
noncomputable def ltDs (lt : D → D → Option Bool) : List D → List D → Bool → Option Bool
  | a :: as, b :: bs, fin => if PyData.eqv (py a) (py b) then ltDs lt as bs fin else lt a b
  | [], _, fin => some fin
  | _ :: _, [], fin => some fin
noncomputable def ltDn : Nat → D → D → Option Bool
  | _, .int a, .int b => some (decide (a < b))
  | n + 1, .tup as, .tup bs => if okDs 8 as && okDs 8 bs then ltDs (ltDn n) as bs (decide (as.length < bs.length)) else none
  | _, _, _ => none
theorem ltDs_cons (lt : D → D → Option Bool) (a b : D) (as bs : List D) (fin : Bool) : ltDs lt (a :: as) (b :: bs) fin = if PyData.eqv (py a) (py b) then ltDs lt as bs fin else lt a b := rfl
theorem ltDn_int (n : Nat) (a b : Int) : ltDn n (.int a) (.int b) = some (decide (a < b)) := by cases n <;> rfl
theorem ltDn_tup (n : Nat) (as bs : List D) : ltDn (n + 1) (.tup as) (.tup bs) = if okDs 8 as && okDs 8 bs then ltDs (ltDn n) as bs (decide (as.length < bs.length)) else none := rfl
noncomputable def LtAt (A : Around) (s : Shared) (x y : Value) (b : Bool) : Prop :=
  ∀ (prog : Program) (w : World) (E : Value → Shared → Prop) (Q : Value → Shared → Prop), Q (.bool b) s → wpAny (model prog w) A (richCompare .Lt x y) Q E s
inductive LexAt (A : Around) (s : Shared) (fin : Bool) : List (Value × Value) → Bool → Prop
  | nil : LexAt A s fin [] fin
  | eq {x y : Value} {r : List (Value × Value)} {b : Bool} : SeqAt.EqAt A s x y true → LexAt A s fin r b → LexAt A s fin ((x, y) :: r) b
  | ne {x y : Value} {r : List (Value × Value)} {b : Bool} : SeqAt.EqAt A s x y false → LtAt A s x y b → LexAt A s fin ((x, y) :: r) b
theorem tuple_ltAt (l b : Addr) (items items2 : Array Value) (n n2 : Nat) (dd dd2 : Option Addr) (sl sl2 : Array (Option Value)) (r : Bool) :
    Meets (Builtin.«tuple.__lt__» ⟨[.ref l, .ref b], []⟩)
      (fun A R s => s.heap.get? l = some { cls := .type "tuple", dict := dd, data := .seq items n, slots := sl } ∧ s.heap.get? b = some { cls := .type "tuple", dict := dd2, data := .seq items2 n2, slots := sl2 } ∧
        LexAt A.in1 s (decide (items.size < items2.size)) (items.toList.zip items2.toList) r ∧ R (.ok (.ret (.bool r))) s) :=
  .of_wp fun prog w A R s h => by
    refine gen ?_; intro GG kGG
    obtain ⟨hp, g, d, tk, os⟩ := s; obtain ⟨hl, hb, he, h⟩ := h
    have f2 := AutoSeq1.sub_tuple_tuple
    refine kGG ?_; clear kGG
    wp_walk using wpAny_loadPart' hl, wpAny_loadPart' hb, wpAny_forIn_list _ (fun rest b s' => b.1 = none ∧ s' = ⟨hp, g, d, tk, os⟩ ∧ LexAt A.in1 ⟨hp, g, d, tk, os⟩ (decide (items.size < items2.size)) rest r) _
    case turn =>
      rintro ⟨y, x⟩ rest b s' ⟨hb', rfl, hR⟩
      cases hR with
      | eq h1 h2 =>
        refine wpAny_bind (h1 prog w _ _ ?_)
        wp_walk
        exact ⟨rfl, rfl, h2⟩
      | ne h1 h2 =>
        refine wpAny_bind (h1 prog w _ _ ?_)
        dsimp only
        refine wpAny_bind (wpAny_rule (wpAny_bind (h2 prog w _ _ ?_)))
        wp_walk
        exact ⟨_, rfl, h⟩
    case fin =>
      rintro ⟨b1, b2⟩ s' ⟨hb', rfl, hR⟩
      simp only at hb'
      subst hb'
      cases hR
      wp_walk
      exact ⟨_, rfl, by simpa [Builtin.Tuple.tupleCompareSizes] using h⟩
    case h =>
      exact ⟨rfl, rfl, he⟩
section
variable {c : Cx} {n : Nat}
theorem eqAt_rep {z : Heap} {A : Around} {s : Shared} {v w : Value} {a b : D} (hs : Sub z s.heap) (rv : BRep c z s.heap v a) (rw' : BRep c z s.heap w b) {k : Nat} (k1 : okD k a = true) (k2 : okD k b = true) (hu : A.units + k < cLine) : SeqAt.EqAt A s v w (PyData.eqv (py a) (py b)) := by
  refine gen ?_; intro GG kGG
  obtain ⟨as, r1, l1, d1⟩ := rv.reads k hs k1
  obtain ⟨bs, r2, l2, d2⟩ := rw'.reads k hs k2
  refine kGG ?_; clear kGG
  exact SeqAt.eqAt_reads _ _ A s _ _ _ _ r1 r2 l1 l2 (by lia)
theorem lexAt_rep {z : Heap} {A : Around} {s : Shared} (hs : Sub z s.heap) {m : Nat} {fin : Bool} (hu : A.units + 8 < cLine)
    (ih : ∀ {a b : D} {r : Bool} {v w : Value}, Rep c z v a → Rep c z w b → ltDn m a b = some r → LtAt A s v w r)
    {as bs : List D} {vs ws : List Value} {r : Bool} (q1 : RepL c z vs as) (q2 : RepL c z ws bs) (k1 : okDs 8 as = true) (k2 : okDs 8 bs = true) (h : ltDs (ltDn m) as bs fin = some r) : LexAt A s fin (vs.zip ws) r := by
  induction as generalizing bs vs ws with
  | nil =>
    obtain rfl := q1.nil_inv
    cases h
    exact .nil
  | cons a as ih2 =>
    obtain ⟨v, vs', rfl, p1, q1⟩ := q1.cons_inv
    cases bs with
    | nil =>
      obtain rfl := q2.nil_inv
      cases h
      exact .nil
    | cons b bs =>
      refine gen ?_; intro GG kGG
      obtain ⟨w, ws', rfl, p2, q2⟩ := q2.cons_inv
      rw [ltDs_cons] at h
      simp only [okDs, Bool.and_eq_true] at k1 k2
      have he := eqAt_rep (A := A) hs (.inl p1) (.inl p2) k1.1 k2.1 hu
      refine kGG ?_; clear kGG
      rw [List.zip_cons_cons]
      cases e : PyData.eqv (py a) (py b) with
      | true =>
        rw [e] at he
        rw [e, if_pos rfl] at h
        exact .eq he (ih2 q1 q2 k1.2 k2.2 h)
      | false =>
        rw [e] at he
        rw [e, if_neg Bool.false_ne_true] at h
        exact .ne he (ih p1 p2 h)
theorem ltAt_int {z : Heap} {m : Nat} {A : Around} {s : Shared} {i : Int} {b : D} {r : Bool} {v w : Value} (ra : Rep c z v (.int i)) (rb : Rep c z w b) (h : ltDn m (.int i) b = some r) : LtAt A s v w r := by
  cases b <;> try (cases m <;> exact nos h)
  rw [ltDn_int] at h; cases h
  refine gen ?_; intro GG kGG
  obtain ⟨t1, rfl⟩ := ra.int_inv
  obtain ⟨t2, rfl⟩ := rb.int_inv
  refine kGG ?_; clear kGG
  intro prog w E Q hq
  exact PyProof.Rows.lt_int hq
theorem ltAt_rep {z : Heap} : ∀ (m : Nat) {A : Around} {s : Shared} {a b : D} {r : Bool} {v w : Value}, Sub z s.heap → A.units + m + 8 < cLine → Rep c z v a → Rep c z w b → ltDn m a b = some r → LtAt A s v w r := by
  intro m
  induction m with
  | zero =>
    intro A s a b r v w hs hu ra rb h
    cases a <;> try exact nos h
    · exact ltAt_int ra rb h
  | succ m ih =>
    intro A s a b r v w hs hu ra rb h
    cases a <;> try exact nos h
    · exact ltAt_int ra rb h
    · rename_i as
      cases b <;> try exact nos h
      refine gen ?_; intro GG kGG
      rename_i bs
      rw [ltDn_tup] at h
      refine oIf h ?_; clear h; intro hk h
      obtain ⟨k1, k2⟩ := Bool.and_eq_true_iff.mp hk
      obtain ⟨x, vs, n1, rfl, h1, r1⟩ := ra.tup_inv
      obtain ⟨y, ws, n2, rfl, h2, r2⟩ := rb.tup_inv
      refine kGG ?_; clear kGG
      intro prog w' E Q hq
      have hx := hs _ _ h1
      have hy := hs _ _ h2
      refine wpAny_richCompare_same_room (op := .Lt) (T := "tuple") ⟨_, hx, rfl⟩ ⟨_, hy, rfl⟩ PySem.F.slot_tuple_lt
        (call_meets PySem.F.slot_tuple_lt ⟨_, hx, rfl⟩ PySem.F.entry_tuple_lt (PySem.F.args_tuple_lt_2 _ _) (tuple_ltAt x y vs.toArray ws.toArray n1 n2 none none #[] #[] r) ⟨hx, hy, ?_, ?_⟩) (by lia)
      · have u1 : A.in1.units + 8 < cLine := by show A.units + 1 + 8 < cLine; lia
        have e1 : decide (vs.toArray.size < ws.toArray.size) = decide (as.length < bs.length) := by rw [List.size_toArray, List.size_toArray, r1.length, r2.length]
        rw [e1]
        exact lexAt_rep hs u1 (fun p q e => ih hs (by show A.units + 1 + m + 8 < cLine; lia) p q e) r1 r2 k1 k2 h
      · exact ⟨fun q => (by cases q), hq⟩
noncomputable def ltT (d e : D) : Option D := match d, e with
  | .tup _, .tup _ => match ltDn 3 d e with
    | some b => some (.bool b)
    | none => none
  | _, _ => none
theorem op_lt : Op2 c n (compareOp .Lt) ltT := by
  intro A z s σ v w d e r R S hv hw hg
  refine qgen ?_; intro QQ kQ
  unfold ltT at hg
  split at hg <;> try cases hg
  first | (refine oIf hg ?_; clear hg; intro hb hg; cases hg) | ((split at hg <;> cases hg); rename_i hb)
  have u := R.units64
  refine ltAt_rep 3 S.zh (by lia) (hv.plain rfl) (hw.plain rfl) hb c.prog c.w _ _ (kQ _ _ ⟨z, .refl S, .bool _⟩)
/-! ### dicts alike -/
noncomputable def eqDicts (ks : List Int) (ds : List D) (ls : List Int) (es : List D) : Bool :=
  ks.length == ls.length && (ks.zip ds).all fun p => match look ls es p.1 with
    | some e => PyData.eqv (py p.2) (py e)
    | none => false
noncomputable def deqD (d e : D) : Option D := match d, e with
  | .dict ks ds, .dict ls es => if okDs 8 ds && okDs 8 es then some (.bool (eqDicts ks ds ls es)) else none
  | _, _ => none
theorem okDs_mem {k : Nat} : ∀ {ds : List D} {i : Nat} {d : D}, okDs k ds = true → ds[i]? = some d → okD k d = true
  | [], i, d, _, h => by simp at h
  | e :: ds, 0, d, h, h' => by simp at h'; subst h'; simp only [okDs, Bool.and_eq_true] at h; exact h.1
  | e :: ds, i + 1, d, h, h' => by simp only [okDs, Bool.and_eq_true] at h; exact okDs_mem h.2 (by simpa using h')
theorem look_mem {k : Int} {e : D} : ∀ {ks : List Int} {ds : List D}, look ks ds k = some e → ∃ i : Nat, ds[i]? = some e
  | [], ds, h => by simp [look] at h
  | a :: ks, [], h => by simp [look] at h
  | a :: ks, d :: ds, h => by
    unfold look at h
    rw [List.zip_cons_cons, List.lookup_cons] at h
    split at h
    · cases h; exact ⟨0, rfl⟩
    · obtain ⟨i, hi⟩ := look_mem h; exact ⟨i + 1, by simpa using hi⟩
theorem hits_rep {z : Heap} {A : Around} {s : Shared} (hs : Sub z s.heap) (hu : A.units + 8 < cLine) {kb : List (Int × Value)} {es : List D} (rb : RepL c z (kb.map (·.2)) es) (k2 : okDs 8 es = true) :
    ∀ {ka : List (Int × Value)} {ds : List D}, RepL c z (ka.map (·.2)) ds → okDs 8 ds = true →
    KeqHits A s kb ka (((ka.map (·.1)).zip ds).all fun p => match look (kb.map (·.1)) es p.1 with | some e => PyData.eqv (py p.2) (py e) | none => false)
  | [], ds, r, _ => by cases r; exact .nil
  | (k, v) :: ka, ds, r, k1 => by
    cases r with
    | cons r1 r2 =>
      rename_i d ds
      simp only [okDs, Bool.and_eq_true] at k1
      rw [List.map_cons, List.zip_cons_cons, List.all_cons]
      cases hl : look (kb.map (·.1)) es k with
      | none =>
        simp only [Bool.false_and]
        exact .miss (look_none rb hl)
      | some e =>
        obtain ⟨y, e1, e2⟩ := look_valueAt rb hl
        obtain ⟨i, hi⟩ := look_mem hl
        exact .hit e1 (eqAt_rep hs (.inl r1) (.inl e2) k1.1 (okDs_mem k2 hi) hu) (hits_rep hs hu rb k2 r2 k1.2)
theorem op_deq : Op2 c n (compareOp .Eq) deqD := by
  intro A z s σ v w d e r R S hv hw hg
  cases d <;> try exact nos hg
  cases e <;> try exact nos hg
  refine gen ?_; intro GG kGG
  first | (refine oIf hg ?_; clear hg; intro hk hg; cases hg) | ((split at hg <;> cases hg); rename_i hk)
  obtain ⟨k1, k2⟩ := Bool.and_eq_true_iff.mp hk
  obtain ⟨a, ka, rfl, h1, h2, rfl, h4⟩ := hv.dict S.zh
  obtain ⟨b, kb, rfl, g1, g2, rfl, g4⟩ := hw.dict S.zh
  have u := R.units64
  have e1 : ∀ ds es, eqDicts (ka.map (·.1)) ds (kb.map (·.1)) es = ((ka.length == kb.length) && ((ka.map (·.1)).zip ds).all fun p => match look (kb.map (·.1)) es p.1 with | some e => PyData.eqv (py p.2) (py e) | none => false) := fun ds es => by unfold eqDicts; rw [List.length_map, List.length_map]
  refine kGG ?_; clear kGG
  rw [e1]
  exact keq_eq h2 g2 h1 g1 R.units (fun _ => hits_rep S.zh (A := A.in1) (by show A.units + 1 + 8 < cLine; lia) g4 k2 h4 k1) ⟨z, .refl S, .bool _⟩
end
end Mine
end
section
open PySem PySem.Calls PySem.W PyProof.Rows
namespace Mine
section
variable {prog : Program} {w : World} {A : Around} {E : Value → Shared → Prop} {s : Shared}
noncomputable def KeepBut (a : Addr) (h h' : Heap) : Prop := ∀ b o, b ≠ a → h.get? b = some o → h'.get? b = some o
theorem sort_small {a : Addr} {vs : List Value} {n : Nat} {P : PySem.Fin → Shared → Prop} (ho : s.heap.get? a = some (seqObj "list" vs.toArray n)) (h2 : vs.length < 2)
    (h : ∀ h' e, KeepBut a s.heap h' → h'.get? a = some (seqObj "list" vs.toArray e) → P (.done (.ret .none)) { s with heap := h' }) :
    wpAny (model prog w) A (Builtin.«list.sort» ⟨[.ref a], []⟩) P E s := by
  rw [list_sort_plain]
  have ha : a < s.heap.objs.size := Heap.lt_size ho
  refine wpAny_bind (listItems_at ho rfl ?_)
  refine wpAny_bind (listUpdate_at ho rfl ?_ (by rw [List.size_toArray, sizeLine_eq]; lia) (Nat.zero_le _))
  obtain ⟨e1, ho1⟩ : ∃ e1, (s.heap.update a (Obj.mapSeq fun _ => (#[] : Array Value))).get? a = some (seqObj "list" #[] e1) := ⟨_, get?_update_seq ho fun _ => #[]⟩
  refine wpAny_bind (seqEpoch_at ho1 rfl ?_)
  refine wpAny_bind (wpAny_newTuple ?_ (by show vs.length ≤ _; rw [sizeLine_eq]; lia))
  refine wpAny_bind (wpAny_newList ?_ (Nat.zero_le _))
  refine wpAny_holding ?_
  show wpAny (model prog w) A _ P E { s with heap := ((s.heap.update a (Obj.mapSeq fun _ => #[])).push (seqObj "tuple" vs.toArray 0)).push (seqObj "list" #[] 0) }
  generalize hH : ((s.heap.update a (Obj.mapSeq fun _ => (#[] : Array Value))).push (seqObj "tuple" vs.toArray 0)).push (seqObj "list" #[] 0) = H
  have keep : KeepBut a s.heap H := fun b o hb e => by
    rw [← hH]
    exact Heap.get?_push_of_some _ (Heap.get?_push_of_some _ (by rw [Heap.get?_update_other _ _ (Ne.symm hb)]; exact e))
  have ho6 : H.get? a = some (seqObj "list" #[] e1) := by
    rw [← hH]
    exact Heap.get?_push_of_some _ (Heap.get?_push_of_some _ ho1)
  dsimp only
  have h2' : vs.toArray.size < 2 := by rw [List.size_toArray]; exact h2
  rw [if_pos h2', if_pos h2']
  refine wpAny_bind (wpAny_pure ?_)
  rw [StateT.run_pure]
  refine wpAny_bind (wpAny_pure ?_)
  dsimp only
  have e2 : (arrOf (SortSt.mk' general' (vs.toArray.zip vs.toArray) #[] 7 none)).map (·.2) = vs.toArray := by
    show (vs.toArray.zip vs.toArray).map (·.2) = vs.toArray
    apply Array.toList_inj.mp
    simp
    apply List.ext_getElem <;> simp
  refine wpAny_bind (seqEpoch_at (s := { s with heap := H }) ho6 rfl ?_)
  rw [e2]
  refine wpAny_bind (listUpdate_at (s := { s with heap := H }) ho6 rfl ?_ (Nat.zero_le _) (by rw [List.size_toArray, sizeLine_eq]; lia))
  simp only [bne_self_eq_false, Bool.false_eq_true, if_false]
  refine wpAny_pure (h _ _ (fun b o hb e => ?_) (get?_update_seq ho6 fun _ => vs.toArray))
  rw [Heap.get?_update_other _ _ (Ne.symm hb)]
  exact keep b o hb e
theorem sort_big {a : Addr} {vs : List Value} {n : Nat} {P : PySem.Fin → Shared → Prop} {G : Array Nat → Prop} (ho : s.heap.get? a = some (seqObj "list" vs.toArray n)) (h2 : 2 ≤ vs.length) (h64 : vs.length < 64)
    (h : ∀ h1, KeepBut a s.heap h1 → wpAny (model prog w) A (keyKind' vs.toArray) (fun κ s' => (kas_sort vs.length).kasWp (kas_ask prog w A κ vs) (fun p s'' => s'' = { s with heap := h1 } ∧ G p) s') (fun _ _ => False) { s with heap := h1 })
    (hP : ∀ p h' e, G p → p.size = vs.length → KeepBut a s.heap h' → h'.get? a = some (seqObj "list" (List.toArray (p.toList.map fun i => vs.getD i Value.none)) e) → P (.done (.ret .none)) { s with heap := h' }) :
    wpAny (model prog w) A (Builtin.«list.sort» ⟨[.ref a], []⟩) P E s := by
  rw [list_sort_plain]
  have ha : a < s.heap.objs.size := Heap.lt_size ho
  refine wpAny_bind (listItems_at ho rfl ?_)
  refine wpAny_bind (listUpdate_at ho rfl ?_ (by rw [List.size_toArray, sizeLine_eq]; lia) (Nat.zero_le _))
  obtain ⟨e1, ho1⟩ : ∃ e1, (s.heap.update a (Obj.mapSeq fun _ => (#[] : Array Value))).get? a = some (seqObj "list" #[] e1) := ⟨_, get?_update_seq ho fun _ => #[]⟩
  refine wpAny_bind (seqEpoch_at ho1 rfl ?_)
  refine wpAny_bind (wpAny_newTuple ?_ (by show vs.length ≤ _; rw [sizeLine_eq]; lia))
  refine wpAny_bind (wpAny_newList ?_ (Nat.zero_le _))
  refine wpAny_holding ?_
  show wpAny (model prog w) A _ P E { s with heap := ((s.heap.update a (Obj.mapSeq fun _ => #[])).push (seqObj "tuple" vs.toArray 0)).push (seqObj "list" #[] 0) }
  generalize hH : ((s.heap.update a (Obj.mapSeq fun _ => (#[] : Array Value))).push (seqObj "tuple" vs.toArray 0)).push (seqObj "list" #[] 0) = H
  have keep : KeepBut a s.heap H := fun b o hb e => by
    rw [← hH]
    exact Heap.get?_push_of_some _ (Heap.get?_push_of_some _ (by rw [Heap.get?_update_other _ _ (Ne.symm hb)]; exact e))
  have ho6 : H.get? a = some (seqObj "list" #[] e1) := by
    rw [← hH]
    exact Heap.get?_push_of_some _ (Heap.get?_push_of_some _ ho1)
  dsimp only
  have hn2 : ¬ vs.toArray.size < 2 := by rw [List.size_toArray]; lia
  rw [if_neg hn2, if_neg hn2]
  refine wpAny_bind (wpAny_mono (h H keep) (fun κ s0 hk => ?_) fun _ _ x => x.elim)
  refine wpAny_bind (wpAny_mono (kat_run (Q := fun st' s' => ∃ p : Array Nat, p.size = vs.length ∧ arrOf st' = p.map (kas_item (vs.toArray.zip vs.toArray)) ∧ failedOf st' = none ∧ s' = { s with heap := H } ∧ G p)
    rfl h2 h64 (fun p' st' s' a1 a2 a3 a4 => ⟨p', a1, a2, a3, a4⟩) hk) ?_ fun _ _ e => e)
  rintro ⟨⟨⟩, st'⟩ s' ⟨p, hp, har, hf, rfl, hG⟩
  dsimp only
  have hout := kat_snds rfl har
  have hsz : (List.toArray (p.toList.map fun i => vs.getD i Value.none)).size = vs.length := by rw [List.size_toArray, List.length_map, Array.length_toList, hp]
  rw [hout]
  refine wpAny_bind (seqEpoch_at (s := { s with heap := H }) ho6 rfl ?_)
  refine wpAny_bind (listUpdate_at (s := { s with heap := H }) ho6 rfl ?_ (Nat.zero_le _) (Nat.le_trans (Nat.le_of_eq hsz) (by rw [sizeLine_eq]; lia)))
  rw [hf]
  simp only [bne_self_eq_false, Bool.false_eq_true, if_false]
  refine wpAny_pure (hP p _ _ hG hp (fun b o hb e => ?_) (get?_update_seq ho6 fun _ => List.toArray (p.toList.map fun i => vs.getD i Value.none)))
  rw [Heap.get?_update_other _ _ (Ne.symm hb)]
  exact keep b o hb e
theorem sorted_list {l : Addr} {vs : List Value} {Q : Value → Shared → Prop} (hl : s.heap.IsList l vs.toArray) (h64 : vs.length < 64)
    (h : ∀ h1 D n, (∀ b o, s.heap.get? b = some o → h1.get? b = some o) → s.heap.get? D = none → h1.get? D = some (seqObj "list" vs.toArray n) →
      wpAny (model prog w) A.in1.in1 (Builtin.«list.sort» ⟨[.ref D], []⟩) (fun fin s' => fin = .done (.ret .none) ∧ Q (.ref D) s') E { s with heap := h1 }) : wpAny (model prog w) A (call (.builtin "sorted") [.ref l]) Q E s := by
  refine Calls.call_function_entry kind_sorted plain_sorted entry_sorted (args_sorted1 _) ?_
  unfold Builtin.«sorted»
  refine wpAny_bind (m := checkCount "sorted" 1 1 _) (wpAny_pure ?_)
  refine wpAny_bind (collect_list hl ?_ (by rw [sizeLine_eq]; lia))
  refine wpAny_bind (wpAny_newList ?_ (by rw [sizeLine_eq]; lia))
  have hsz : ((s.heap.push (seqObj "list" #[] 0)).update s.heap.objs.size (Obj.mapSeq (· ++ vs.toArray))).objs.size = s.heap.objs.size + 1 := by
    rw [Heap.size_update, size_push']
  have hoL : (((s.heap.push (seqObj "list" #[] 0)).update s.heap.objs.size (Obj.mapSeq (· ++ vs.toArray))).push (seqObj "list" vs.toArray 0)).get? (s.heap.objs.size + 1) = some (seqObj "list" vs.toArray 0) := by
    rw [← hsz]; exact Heap.get?_push_size _ rfl
  have keep : ∀ b o, s.heap.get? b = some o → (((s.heap.push (seqObj "list" #[] 0)).update s.heap.objs.size (Obj.mapSeq (· ++ vs.toArray))).push (seqObj "list" vs.toArray 0)).get? b = some o := fun b o q => by
    have hlt : b < s.heap.objs.size := Heap.lt_size q
    rw [Heap.get?_push_ne _ _ _ (by rw [hsz]; exact Nat.ne_of_lt (Nat.lt_succ_of_lt hlt)), Heap.get?_update_ne _ _ _ _ (Nat.ne_of_lt hlt), Heap.get?_push_ne _ _ _ (Nat.ne_of_lt hlt)]
    exact q
  show wpAny _ _ _ _ _ { s with heap := ((s.heap.push (seqObj "list" #[] 0)).update s.heap.objs.size (Obj.mapSeq (· ++ vs.toArray))).push (seqObj "list" vs.toArray 0) }
  rw [hsz]
  refine wpAny_bind (wpAny_holding (wpAny_call_entry slot_list_sort ⟨_, hoL, rfl⟩ entry_list_sort ?body (args_list_sort _)))
  case body =>
    refine wpAny_mono (h _ _ 0 keep (get_ge (Nat.le_succ _)) hoL) (fun fin s' hq => ?_) fun _ _ x => x
    obtain ⟨rfl, hq⟩ := hq
    exact ⟨_, rfl, wpAny_pure ⟨_, rfl, hq⟩⟩
theorem sorted_dict {c : Cx} {a : Addr} {kvs : List (Int × Value)} {Q : Value → Shared → Prop} (hh : A.handled = none) (hd : s.heap.DictOf (intKind prog w) a kvs) (ha : (a == sysModules) = false) (h64 : kvs.length < 64)
    (h : ∀ h1 D tk n vs, (∀ b o, s.heap.get? b = some o → h1.get? b = some o) → s.heap.get? D = none → IntsAre vs (((kvs.map (·.1)).mergeSort fun a b => decide (a ≤ b))) → h1.get? D = some (seqObj "list" vs.toArray n) → Q (.ref D) { s with heap := h1, toks := tk }) :
    wpAny (model prog w) A (call (.builtin "sorted") [.ref a]) Q E s := by
  refine gen ?_; intro GG kGG
  obtain ⟨o, es, ep, e1, e2, e3, e4, e5, e6⟩ := hd
  have hat : s.heap.DictAt (intKind prog w) a kvs ep := ⟨o, es, e1, e2, e3, e4, e5, e6⟩
  refine kGG ?_; clear kGG
  refine call_function_entry kind_sorted plain_sorted entry_sorted (args_sorted1 _) ?_
  unfold Builtin.«sorted»
  refine wpAny_bind (m := checkCount "sorted" 1 1 _) (wpAny_pure ?_)
  refine wpAny_bind (kdu_collect (A := A.in1) (kdl_dict (knd := intKind prog w) (kvs := kvs) (ep := ep) ha) hh hat (by rw [sizeLine_eq]; lia) fun h' tk acc hk hacc => ?_)
  have hl : acc.toList.length = kvs.length := by rw [Array.length_toList]; exact hacc.1
  refine wpAny_bind (wpAny_newList ?_ (by rw [hl, sizeLine_eq]; lia))
  have hI : IntsAre acc.toList (kvs.map (·.1)) := by
    have key : ∀ (vs : List Value) (ks : List (Int × Value)), vs.length = ks.length → (∀ (j : Nat) (v : Value), vs[j]? = some v → ∃ k x, ks[j]? = some (k, x) ∧ (intKind prog w).is k v = true) → IntsAre vs (ks.map (·.1)) := by
      intro vs
      induction vs with
      | nil => intro ks hl _; cases ks with | nil => exact .nil | cons => cases hl
      | cons v vs ih =>
        intro ks hl hp
        cases ks with
        | nil => cases hl
        | cons k ks =>
          obtain ⟨k', x, hx, hv⟩ := hp 0 v rfl
          simp only [List.getElem?_cons_zero, Option.some.injEq] at hx
          subst hx
          obtain ⟨t, rfl⟩ := Value.isInt_shape (show Value.isInt k' v = true from hv)
          exact .cons _ _ (ih ks (by simpa using hl) fun j v hj => by simpa using hp (j + 1) v (by simpa using hj))
    exact key _ _ hl fun j v e => hacc.2 j v (by rw [← Array.getElem?_toList]; exact e)
  have hoL : (h'.push { cls := .type "list", data := .seq acc.toList.toArray }).get? h'.objs.size = some (seqObj "list" acc.toList.toArray 0) := Heap.get?_push_size _ rfl
  refine wpAny_bind (wpAny_holding (wpAny_call_entry slot_list_sort ⟨_, hoL, rfl⟩ entry_list_sort (list_sort_tree (s := { s with heap := h'.push { cls := .type "list", data := .seq acc.toList.toArray }, toks := tk }) hoL hI (by lia) fun out ns' a1 a2 a3 => ⟨_, rfl, ?_⟩) (args_list_sort _)))
  have hns : ns' = ((kvs.map (·.1)).mergeSort fun a b => decide (a ≤ b)) := by
    refine List.Perm.eq_of_pairwise (le := (· ≤ ·)) (fun a b _ _ h1 h2 => Int.le_antisymm h1 h2) a3 ?_ (a2.trans (List.mergeSort_perm _ _).symm)
    have := List.pairwise_mergeSort (le := fun (a b : Int) => decide (a ≤ b)) (fun a b c h1 h2 => decide_eq_true (Int.le_trans (of_decide_eq_true h1) (of_decide_eq_true h2))) (fun a b => by
      rcases Int.le_total a b with h | h
      · simp [h]
      · simp [h]) (kvs.map (·.1))
    exact this.imp fun h => of_decide_eq_true h
  obtain ⟨e0, he0⟩ := sortedHeap_at (out := out) hoL
  refine wpAny_pure ⟨_, rfl, h (sortedHeap (h'.push { cls := .type "list", data := .seq acc.toList.toArray }) h'.objs.size acc.toList out) h'.objs.size tk e0 out.toList (fun b o e => ?_) ?_ (hns ▸ a1) ?_⟩
  · have hlt := Heap.lt_size (hk b o e)
    rw [sortedHeap_old (Nat.ne_of_lt hlt) (by rw [size_push']; exact Nat.lt_succ_of_lt hlt)]
    exact Heap.get?_push_of_some _ (hk b o e)
  · cases e : s.heap.get? h'.objs.size with
    | none => rfl
    | some o => exact absurd (Heap.lt_size (hk _ _ e)) (Nat.lt_irrefl _)
  · simpa using he0
end
end Mine
end
section
open PySem PySem.Calls PySem.W PyProof.Rows
namespace Mine
noncomputable def runK {α : Type} (lt : Nat → Nat → Option Bool) : KasT α → Option α
  | .ret a => some a
  | .ask i j k => match lt i j with
    | some b => runK lt (k b)
    | none => none
theorem runK_wp {α : Type} {prog : Program} {w : World} {A : Around} {κ : SortKind} {vs : List Value} {lt : Nat → Nat → Option Bool} {s : Shared}
    (h : ∀ i j b C, lt i j = some b → C b s → kas_ask prog w A κ vs i j C s) {Q : α → Shared → Prop} : ∀ {t : KasT α} {a : α}, runK lt t = some a → Q a s → t.kasWp (kas_ask prog w A κ vs) Q s
  | .ret b, a, e, q => by unfold runK at e; cases e; exact q
  | .ask i j k, a, e, q => by
    unfold runK at e
    split at e
    · rename_i b hb
      exact h i j b (fun b s' => (k b).kasWp (kas_ask prog w A κ vs) Q s') hb (runK_wp h e q)
    · cases e
noncomputable def keyD (ds : List D) (i j : Nat) : Option Bool := match ds[i]? with
  | some d => match ds[j]? with
    | some e => ltDn 3 d e
    | none => none
  | none => none
noncomputable def isKey : D → Bool
  | .tup (.int _ :: _) => true
  | _ => false
theorem isKey_inv {d : D} (h : isKey d = true) : ∃ a as, d = .tup (.int a :: as) := by
  cases d <;> try cases h
  rename_i l; cases l <;> try cases h
  rename_i e as; cases e <;> try cases h
  exact ⟨_, _, rfl⟩
noncomputable def sortTD : D → Option D
  | .list ds => if ds.length < 2 then some (.list ds) else if ds.length < 64 ∧ ds.all isKey = true then
      match runK (keyD ds) (kas_sort ds.length) with
      | some p => some (.list (p.toList.map fun i => ds.getD i .none))
      | none => none
    else none
  | _ => none
noncomputable def sortKD : D → Option D
  | .dict ks _ => if ks.length < 64 then some (.list ((ks.mergeSort fun a b => decide (a ≤ b)).map .int)) else none
  | _ => none
section
variable {c : Cx} {n : Nat}
theorem ints_rep {z : Heap} : ∀ {vs : List Value} {ks : List Int}, IntsAre vs ks → RepL c z vs (ks.map .int) := by
  intro vs ks h
  induction h with
  | nil => exact .nil
  | cons _ _ _ ih => exact .cons (.int _ _) ih
theorem op_sortK : Op1 c n (fun v => call (.builtin "sorted") [v]) sortKD := by
  intro A z s σ v d r R S hv hg
  refine qgen ?_; intro QQ kQ
  unfold sortKD at hg
  split at hg <;> try cases hg
  refine gen ?_; intro GG kGG
  first | (refine oIf hg ?_; clear hg; intro h64 hg; cases hg) | ((split at hg <;> cases hg); rename_i h64)
  obtain ⟨a, kvs, rfl, h1, h2, rfl, h4⟩ := hv.dict S.zh
  refine kGG ?_; clear kGG
  refine sorted_dict (c := c) R.1 h1 h2 (by simpa using h64) fun h' D tk m vs hk hD hI hoD => ?_
  obtain ⟨z', p, ez⟩ := EPost.got (tk := tk) S hk hD hoD
  exact (kQ _ _ ⟨z', p, .list ez (ints_rep hI)⟩)
theorem katLex_rep {z : Heap} {A : Around} {s : Shared} (hs : Sub z s.heap) {m : Nat} {fin : Bool} (hu : A.units + m + 16 < cLine) {Q : Bool → Shared → Prop}
    {as bs : List D} {vs ws : List Value} {r : Bool} {i : Nat} (q1 : RepL c z vs as) (q2 : RepL c z ws bs) (k1 : okDs 8 as = true) (k2 : okDs 8 bs = true) (h : ltDs (ltDn m) as bs fin = some r)
    (hi : i = 0 → (∃ a as', as = .int a :: as') ∧ ∃ b bs', bs = .int b :: bs') (q : Q r s) : KatLex c.prog c.w A true fin Q (vs.zip ws) i s := by
  induction as generalizing bs vs ws i with
  | nil =>
    obtain rfl := q1.nil_inv
    cases h
    exact kat_nil q
  | cons a as ih2 =>
    obtain ⟨v, vs', rfl, p1, q1⟩ := q1.cons_inv
    cases bs with
    | nil =>
      obtain rfl := q2.nil_inv
      cases h
      exact kat_nil q
    | cons b bs =>
      refine gen ?_; intro GG kGG
      obtain ⟨w, ws', rfl, p2, q2⟩ := q2.cons_inv
      rw [ltDs_cons] at h
      simp only [okDs, Bool.and_eq_true] at k1 k2
      have he := eqAt_rep (A := A) hs (.inl p1) (.inl p2) k1.1 k2.1 (by lia)
      refine kGG ?_; clear kGG
      rw [List.zip_cons_cons]
      refine kat_cons (he c.prog c.w _ _ ?_)
      cases e : PyData.eqv (py a) (py b) with
      | true =>
        rw [e, if_pos rfl] at h
        exact kat_yes (ih2 q1 q2 k1.2 k2.2 h (fun q => by cases q) )
      | false =>
        rw [e, if_neg Bool.false_ne_true] at h
        refine kat_no ?_
        by_cases h0 : i = 0
        · obtain ⟨⟨a', as', e1⟩, b', bs', e2⟩ := hi h0
          refine gen ?_; intro GG kGG
          obtain rfl := (List.cons.inj e1).1
          obtain rfl := (List.cons.inj e2).1
          obtain ⟨t1, rfl⟩ := p1.int_inv
          obtain ⟨t2, rfl⟩ := p2.int_inv
          subst h0
          have e3 : (true && (0 : Nat) == 0) = true := rfl
          refine kGG ?_; clear kGG
          rw [e3]
          refine oneLt_int ?_
          rw [ltDn_int] at h; cases h; exact q
        · have e3 : (true && i == 0) = false := by simp [h0]
          rw [e3]
          exact kat_one _ _ (ltAt_rep (A := A) m hs (by lia) p1 p2 h c.prog c.w _ (PySem.W.BoolBack Q) q)
theorem keys_tups {z : Heap} {h : Heap} (hs : Sub z h) {vs : List Value} {ds : List D} (r : RepL c z vs ds) (hk : ds.all isKey = true) : ∃ fs, KatTups h vs fs ∧ fs.length = ds.length ∧ ∀ v ∈ fs, ∃ i t, v = Value.int i t := by
  induction ds generalizing vs with
  | nil => obtain rfl := r.nil_inv; exact ⟨[], .nil, rfl, fun _ h => by simp at h⟩
  | cons d ds ih =>
    refine gen ?_; intro GG kGG
    obtain ⟨v, ws, rfl, r1, r2⟩ := r.cons_inv
    rw [List.all_cons, Bool.and_eq_true] at hk
    obtain ⟨fs, q1, q2, q3⟩ := ih r2 hk.2
    obtain ⟨i0, as, rfl⟩ := isKey_inv hk.1
    obtain ⟨a, us, n, rfl, e, r⟩ := r1.tup_inv
    obtain ⟨v0, us', rfl, ra, rb⟩ := r.cons_inv
    obtain ⟨t0, rfl⟩ := ra.int_inv
    refine kGG ?_; clear kGG
    refine ⟨.int i0 t0 :: fs, .cons (hs _ _ e) rfl rfl (by simp) q1, by simp [q2], fun v hv => ?_⟩
    rcases List.mem_cons.mp hv with rfl | hv
    · exact ⟨_, _, rfl⟩
    · exact q3 v hv
theorem getD_rep {z : Heap} {vs : List Value} {ds : List D} (r : RepL c z vs ds) (i : Nat) : Rep c z (vs.getD i Value.none) (ds.getD i .none) := by
  rw [List.getD_eq_getElem?_getD, List.getD_eq_getElem?_getD]
  cases e : ds[i]? with
  | some d =>
    obtain ⟨v, h1, h2⟩ := r.get e
    rw [h1]; exact h2
  | none =>
    have : vs[i]? = none := by
      rw [List.getElem?_eq_none_iff] at e ⊢
      rw [r.length]; exact e
    rw [this]; exact .none
theorem op_sortT : Op1 c n (fun v => call (.builtin "sorted") [v]) sortTD := by
  intro A z s σ v d r R S hv hg
  refine qgen ?_; intro QQ kQ
  unfold sortTD at hg
  split at hg <;> try cases hg
  refine gen ?_; intro GG kGG
  obtain ⟨l, vs, k, rfl, h1, r1⟩ := hv.list S.zh
  have hlen := r1.length
  have hl : s.heap.IsList l vs.toArray := ⟨_, h1, rfl, k, rfl⟩
  refine kGG ?_; clear kGG
  split at hg
  · rename_i h2
    cases hg
    refine sorted_list hl (by lia) fun h' Dd m hk hD hoD => ?_
    refine sort_small (s := { s with heap := h' }) hoD (by lia) fun h2 e hkb hoD2 => ⟨rfl, ?_⟩
    have hk2 : ∀ b o, s.heap.get? b = some o → h2.get? b = some o := fun b o e => hkb b o (fun q => by rw [q, hD] at e; cases e) (hk b o e)
    obtain ⟨z', p, ez⟩ := EPost.got (tk := s.toks) S hk2 hD hoD2
    exact (kQ _ _ ⟨z', p, .list ez (r1.mono p.zz)⟩)
  · rename_i h2
    split at hg <;> try cases hg
    rename_i hc
    first | (refine oD hg ?_; clear hg; intro p hp hg; try cases hg) | ((split at hg <;> cases hg); rename_i p hp)
    refine sorted_list hl (by lia) fun h' Dd m hk hD hoD => ?_
    rw [← hlen] at hp
    refine sort_big (s := { s with heap := h' }) (G := fun p' => p' = p) hoD (by lia) (by lia) (fun h3 hkb => ?_) fun p' h2 e hG hsz hkb hoD2 => ⟨rfl, ?_⟩
    · have hk2 : ∀ b o, s.heap.get? b = some o → h3.get? b = some o := fun b o e => hkb b o (fun q => by rw [q, hD] at e; cases e) (hk b o e)
      have hs3 : Sub z h3 := S.zh.trans hk2
      obtain ⟨fs, q1, q2, q3⟩ := keys_tups (h := h3) hs3 r1 hc.2
      refine kat_kind (s := { s with heap := h3 }) (T := .type "int") q1 (by lia) (fun v hv => ?_) (by decide) ?_
      · obtain ⟨i, t, rfl⟩ := q3 v hv
        exact .now
      · refine runK_wp (fun i j b C hb hC => ?_) hp ⟨rfl, rfl⟩
        refine gen ?_; intro GG kGG
        unfold keyD at hb
        refine oD hb ?_; clear hb; intro d1 ei hb
        refine oD hb ?_; clear hb; intro d2 ej hb
        obtain ⟨a, as, rfl⟩ := isKey_inv (List.all_eq_true.mp hc.2 _ (List.mem_of_getElem? ei))
        obtain ⟨b', bs, rfl⟩ := isKey_inv (List.all_eq_true.mp hc.2 _ (List.mem_of_getElem? ej))
        rw [ltDn_tup] at hb
        refine oIf hb ?_; clear hb; intro hkk hb
        obtain ⟨k1, k2⟩ := Bool.and_eq_true_iff.mp hkk
        obtain ⟨v1, hv1, rv1⟩ := r1.get ei
        obtain ⟨v2, hv2, rv2⟩ := r1.get ej
        refine kGG ?_; clear kGG
        unfold kas_ask
        rw [List.getD_eq_getElem?_getD, List.getD_eq_getElem?_getD, hv1, hv2]
        refine gen ?_; intro GG kGG
        obtain ⟨a1, us1, n1, rfl, x1, y1⟩ := rv1.tup_inv
        obtain ⟨a2, us2, n2, rfl, x2, y2⟩ := rv2.tup_inv
        have u := R.units64
        refine kGG ?_; clear kGG
        refine kat_lt (s := { s with heap := h3 }) (hs3 _ _ x1) rfl (hs3 _ _ x2) rfl ?_
        have e4 : ∀ {us ws : List Value} {cs es : List D}, RepL c z us cs → RepL c z ws es → decide (us.toArray.size < ws.toArray.size) = decide (cs.length < es.length) := fun p q => by rw [List.size_toArray, List.size_toArray, p.length, q.length]
        rw [e4 y1 y2]
        exact katLex_rep (A := A.in1.in1) hs3 (by show A.units + 1 + 1 + 2 + 16 < cLine; lia) y1 y2 k1 k2 hb (fun _ => ⟨⟨_, _, rfl⟩, _, _, rfl⟩) hC
    · subst hG
      have hk2 : ∀ b o, s.heap.get? b = some o → h2.get? b = some o := fun b o e => hkb b o (fun q => by rw [q, hD] at e; cases e) (hk b o e)
      obtain ⟨z', p2, ez⟩ := EPost.got (tk := s.toks) S hk2 hD hoD2
      refine (kQ _ _ ⟨z', p2, .list ez ?_⟩)
      generalize p'.toList = l
      induction l with
      | nil => exact .nil
      | cons i l ih => exact .cons ((getD_rep r1 i).mono p2.zz) ih
end
end Mine
end
section
open PySem PySem.Calls PySem.W PyProof.Rows
namespace Mine
/-- a function, called with data -/
noncomputable def FS (c : Cx) (n : Nat) (a : Addr) (F : List D → Src → Option (D × Src)) : Prop :=
  ∀ ⦃A z s σ vs ds d σ'⦄, Room A (n + 1) → St0 c z s σ → RepL c z vs ds → F ds σ = some (d, σ') →
    codeAny (model c.prog c.w) A (.call (.ref a) ⟨vs, []⟩) (fun r s' => ∃ v, r = .ok (.ret v) ∧ ∃ z', EPost c z s z' s' σ' ∧ Rep c z' v d) s
noncomputable def CodeIn (K : Frag) (v : Value) (q : Str) : Prop := ∃ cc o vs t, v = .ref cc ∧ K.lookup cc = some o ∧ o.data = .fields vs ∧ vs[1]? = some (.str q t)
structure FnAt (c : Cx) (a : Addr) (o : Obj) (fd : FuncData) (sc : Scope) (body : List Stmt) (params : List Str) : Prop where
  obj : c.K.lookup a = some o
  data : o.data = .func fd
  body : fd.body = .stmts body
  sc : fd.scope = sc
  clo : fd.closure = []
  glob : fd.globals = mainGlobals
  blt : fd.builtins = builtinsNs
  code : CodeIn c.K fd.code fd.qualname
  bind : ∀ vals : List Value, vals.length = params.length → bindArgs fd ⟨vals, []⟩ = pure (params.zip vals)
structure Sig (sc : Scope) (params nm wr : List Str) : Prop where
  kind : sc.kind = .function
  co : sc.isCoroutine = false
  gen : sc.isGenerator = false
  pre : nm.take params.length = params
  nd : nm.Nodup
  pk : ∀ x ∈ params, sc.names.lookup x = some .local ∨ (sc.names.lookup x = some .cell ∧ (x, NameKind.cell) ∈ sc.names)
  wrk : ∀ x ∈ wr, sc.names.lookup x = some .cell ∧ (x, NameKind.cell) ∈ sc.names
theorem cellsFrom_acc {x : Str} : ∀ {names : List (Str × NameKind)} {k : Nat} {acc : List (Str × Addr)}, (acc.lookup x).isSome = true → ((cellsFrom k names acc).lookup x).isSome = true
  | [], k, acc, h => h
  | (y, kd) :: names, k, acc, h => by
    unfold cellsFrom
    split
    · refine cellsFrom_acc ?_
      rw [List.lookup_cons]
      split
      · rfl
      · exact h
    · exact cellsFrom_acc h
theorem cellsFrom_mem {x : Str} : ∀ {names : List (Str × NameKind)} {k : Nat} {acc : List (Str × Addr)}, (x, NameKind.cell) ∈ names → ((cellsFrom k names acc).lookup x).isSome = true
  | (y, kd) :: names, k, acc, h => by
    unfold cellsFrom
    rcases List.mem_cons.mp h with h | h
    · cases h
      rw [if_pos (by rfl)]
      refine cellsFrom_acc ?_
      rw [List.lookup_cons]
      simp
    · split
      · exact cellsFrom_mem h
      · exact cellsFrom_mem h
theorem bindL_off {kindOf : Str → Option NameKind} {x : Str} : ∀ {ps : List Str} {vs : List Value} {m : Str → Option Value}, x ∉ ps → bindL kindOf (ps.zip vs) m x = m x
  | [], vs, m, _ => rfl
  | p :: ps, [], m, _ => rfl
  | p :: ps, v :: vs, m, h => by
    rw [List.zip_cons_cons]
    unfold bindL
    rw [bindL_off fun q => h (.tail _ q)]
    split
    · show (if x = p then some v else m x) = m x
      rw [if_neg (fun q => h (by rw [q]; exact .head _))]
    · rfl
theorem bindL_at {kindOf : Str → Option NameKind} {x : Str} {v : Value} (hx : kindOf x = some .local) : ∀ {ps : List Str} {vs : List Value} {m : Str → Option Value} {i : Nat}, ps.Nodup → ps[i]? = some x → vs[i]? = some v → bindL kindOf (ps.zip vs) m x = some v
  | [], vs, m, i, _, h, _ => by simp at h
  | p :: ps, [], m, i, _, _, h => by simp at h
  | p :: ps, u :: vs, m, 0, hn, h1, h2 => by
    simp only [List.getElem?_cons_zero, Option.some.injEq] at h1 h2
    subst h1 h2
    rw [List.zip_cons_cons]
    unfold bindL
    rw [bindL_off (List.nodup_cons.mp hn).1, if_pos hx]
    show (if p = p then some u else m p) = some u
    rw [if_pos rfl]
  | p :: ps, u :: vs, m, i + 1, hn, h1, h2 => by
    rw [List.zip_cons_cons]
    unfold bindL
    exact bindL_at hx (List.nodup_cons.mp hn).2 (by simpa using h1) (by simpa using h2)
theorem bindC_off {kindOf : Str → Option NameKind} {x : Str} : ∀ {ps : List Str} {vs : List Value} {m : Str → Option Value}, x ∉ ps → bindC kindOf (ps.zip vs) m x = m x
  | [], vs, m, _ => rfl
  | p :: ps, [], m, _ => rfl
  | p :: ps, v :: vs, m, h => by
    rw [List.zip_cons_cons]
    unfold bindC
    rw [bindC_off fun q => h (.tail _ q)]
    split
    · rfl
    · show (if x = p then some v else m x) = m x
      rw [if_neg (fun q => h (by rw [q]; exact .head _))]
theorem bindC_at {kindOf : Str → Option NameKind} {x : Str} {v : Value} (hx : kindOf x ≠ some .local) : ∀ {ps : List Str} {vs : List Value} {m : Str → Option Value} {i : Nat}, ps.Nodup → ps[i]? = some x → vs[i]? = some v → bindC kindOf (ps.zip vs) m x = some v
  | [], vs, m, i, _, h, _ => by simp at h
  | p :: ps, [], m, i, _, _, h => by simp at h
  | p :: ps, u :: vs, m, 0, hn, h1, h2 => by
    simp only [List.getElem?_cons_zero, Option.some.injEq] at h1 h2
    subst h1 h2
    rw [List.zip_cons_cons]
    unfold bindC
    rw [bindC_off (List.nodup_cons.mp hn).1, if_neg hx]
    show (if p = p then some u else m p) = some u
    rw [if_pos rfl]
  | p :: ps, u :: vs, m, i + 1, hn, h1, h2 => by
    rw [List.zip_cons_cons]
    unfold bindC
    exact bindC_at hx (List.nodup_cons.mp hn).2 (by simpa using h1) (by simpa using h2)
noncomputable def vars0 (ds : List D) (m : Nat) : Vars := ds.map .frz ++ List.replicate m .un
noncomputable def fdef (k m : Nat) (f : SF) : List D → Src → Option (D × Src) := fun ds σ => if ds.length = k then
    match f (vars0 ds m) σ with
    | some (.ret d, _, σ) => some (d, σ)
    | _ => none
  else none
section
variable {c : Cx} {n : Nat} {sc : Scope} {nm : List Str} {wr : List Str}
open Classical in
noncomputable def fineOf (c : Cx) (h : Heap) (a : Addr) : Option Obj := if Fine c a then h.get? a else none
theorem lookup_mem {x : Str} {a : Addr} : ∀ {l : List (Str × Addr)}, l.lookup x = some a → (x, a) ∈ l := fun {_} h => mem_of_lookup h
/-- a function's frame, entered -/
theorem enter {a : Addr} {o : Obj} {fd : FuncData} {params : List Str} {body : List Stmt} {m : Nat} {z : Heap} {s s₁ : Shared} {σ : Src} {vs : List Value} {ds : List D} (_ok : c.Ok) (fa : FnAt c a o fd sc body params) (sg : Sig sc params nm wr)
    (hm : params.length + m ≤ nm.length) (S : St0 c z s σ) (r : RepL c z vs ds) (hl : ds.length = params.length)
    (x : InCallC s (callEnvC fd s.heap.objs.size a).locals (bindL (callEnvC fd s.heap.objs.size a).kindOf (params.zip vs) fun _ => none) (callEnvC fd s.heap.objs.size a).cells
        (bindC (callEnvC fd s.heap.objs.size a).kindOf (params.zip vs) fun _ => none) s₁) :
    SSt c (fineOf c s.heap) wr z (callEnvC fd s.heap.objs.size a) s₁ nm (vars0 ds m) (fun _ => 0) σ := by
  refine gen ?_; intro GG kGG
  obtain ⟨h', tk, rfl, hk⟩ := x.done
  have p := EPost.grown (tk := tk) S hk
  have hL0 : s.heap.get? s.heap.objs.size = none := get_size _
  have hfC : ∀ y b, (callEnvC fd s.heap.objs.size a).cells.lookup y = some b → s.heap.get? b = none := fun y b hb => get_ge (Nat.le_of_lt (x.above y b (mem_of_lookup hb)))
  have hkO : ∀ y, (callEnvC fd s.heap.objs.size a).kindOf y = sc.names.lookup y := fun y => by show fd.scope.names.lookup y = _; rw [fa.sc]
  have gnone : ∀ b, s.heap.get? b = none → fineOf c s.heap b = none := fun b hb => by unfold fineOf; split <;> first | exact hb | rfl
  have nd : params.Nodup := by have := sg.nd; rw [← List.take_append_drop params.length nm] at this; have := (List.nodup_append.mp this).1; rwa [sg.pre] at this
  refine kGG ?_; clear kGG
  refine ⟨⟨p.st, ?_, fa.glob, fa.blt, fine_new S hL0, fun y b hb => fine_new S (hfC y b hb), fun i y k hy hk' => ?_⟩, ?_, fun b o e => ?_, fun b o e => ?_, gnone _ hL0, z_none S hL0, ⟨_, x.toInCall.ns⟩, fun y hy => ?_, fun y b hb => ⟨_, x.cell y b hb⟩, fun y hy y' b hne hb hb' => ?_, fun i k e ho => ?_, fun i j k k' e _ ho => ?_⟩
  · show fd.scope.kind = _; rw [fa.sc]; exact sg.kind
  · unfold vars0 at hk'
    by_cases hi : i < ds.length
    · rw [List.getElem?_append_left (by simpa using hi), List.getElem?_map, List.getElem?_eq_getElem hi] at hk'
      cases hk'
      have hyp : params[i]? = some y := by
        rw [← sg.pre, List.getElem?_take_of_lt (by lia)]; exact hy
      obtain ⟨v, hv, rv⟩ := r.get (List.getElem?_eq_getElem hi)
      refine ⟨v, ?_, rv⟩
      rcases sg.pk y (List.mem_of_getElem? hyp) with h1 | ⟨h1, h2⟩
      · exact .inl ⟨by rw [hkO]; exact h1, _, x.toInCall.ns, bindL_at (by rw [hkO]; exact h1) nd hyp hv⟩
      · have hc := cellsFrom_mem (k := s.heap.objs.size + 1) (acc := []) h2
        obtain ⟨b, hb⟩ := Option.isSome_iff_exists.mp hc
        have hb' : (callEnvC fd s.heap.objs.size a).cells.lookup y = some b := by show (cellsFrom (s.heap.objs.size + 1) fd.scope.names []).lookup y = _; rw [fa.sc]; exact hb
        refine .inr ⟨.inl (by rw [hkO]; exact h1), b, hb', ?_⟩
        have := x.cell y b hb'
        rw [bindC_at (by rw [hkO, h1]; exact fun q => by cases q) nd hyp hv] at this
        exact this
    · rw [List.getElem?_append_right (by simpa using Nat.le_of_not_lt hi), List.getElem?_replicate] at hk'
      split at hk' <;> cases hk'
      trivial
  · unfold vars0; rw [List.length_append, List.length_map, List.length_replicate]; lia
  · unfold fineOf at e; split at e
    · exact hk b o e
    · cases e
  · unfold fineOf at e; split at e
    · assumption
    · cases e
  · obtain ⟨h1, h2⟩ := sg.wrk y hy
    have hc := cellsFrom_mem (k := s.heap.objs.size + 1) (acc := []) h2
    obtain ⟨b, hb⟩ := Option.isSome_iff_exists.mp hc
    have hb' : (callEnvC fd s.heap.objs.size a).cells.lookup y = some b := by show (cellsFrom (s.heap.objs.size + 1) fd.scope.names []).lookup y = _; rw [fa.sc]; exact hb
    exact ⟨b, _, by rw [hkO]; exact h1, hb', gnone _ (hfC y b hb'), z_none S (hfC y b hb'), x.cell y b hb'⟩
  · have := x.apart
    refine gen ?_; intro GG kGG
    have m1 := mem_of_lookup hb
    have m2 := mem_of_lookup hb'
    obtain ⟨i, hi, e1⟩ := List.getElem_of_mem m1
    obtain ⟨j, hj, e2⟩ := List.getElem_of_mem m2
    refine kGG ?_; clear kGG
    rcases Nat.lt_trichotomy i j with h | h | h
    · exact List.pairwise_iff_getElem.mp this i j hi hj h (by rw [e1, e2])
    · subst h; rw [e1] at e2; cases e2; exact hne rfl
    · exact List.pairwise_iff_getElem.mp this j i hj hi h (by rw [e1, e2])
  · have : isOwn k = false := by
      unfold vars0 at e
      rcases List.mem_append.mp (List.mem_of_getElem? e) with h | h
      · obtain ⟨d, _, rfl⟩ := List.mem_map.mp h; rfl
      · rw [List.eq_of_mem_replicate h]; rfl
    rw [this] at ho; cases ho
  · have : isOwn k = false := by
      unfold vars0 at e
      rcases List.mem_append.mp (List.mem_of_getElem? e) with h | h
      · obtain ⟨d, _, rfl⟩ := List.mem_map.mp h; rfl
      · rw [List.eq_of_mem_replicate h]; rfl
    rw [this] at ho; cases ho
theorem left_post {z z' : Heap} {s s' : Shared} {env : Env} {ρ : Vars} {ad : Nat → Addr} {σ σ' : Src} (_S : St0 c z s σ) (sp : SPost c (fineOf c s.heap) z z') (T : SSt c (fineOf c s.heap) wr z' env s' nm ρ ad σ') : EPost c z s z' s' σ' := by
  refine ⟨T.v.st, sp.zz, fun a ha => (sp.zn a ha).imp id fun e => ?_, fun a o f e => ?_⟩
  · have hF := T.v.st.fine ha
    unfold fineOf at e
    rw [if_pos hF] at e
    exact e
  · refine T.keep a o ?_
    unfold fineOf
    rw [if_pos f]; exact e
theorem code_in {K : Frag} {h : Heap} (X : K.In h) {v : Value} {q : Str} (e : CodeIn K v q) : h.CodeRec v q := by
  refine gen ?_; intro GG kGG
  obtain ⟨cc, o, vs, t, e1, e2, e3, e4⟩ := e
  refine kGG ?_; clear kGG
  exact ⟨cc, o, vs, t, e1, X _ _ e2, e3, e4⟩
theorem FS.ofAt (ok : c.Ok) {a : Addr} {o : Obj} {fd : FuncData} {params : List Str} {body : List Stmt} {m : Nat} {f : SF} (fa : FnAt c a o fd sc body params) (sg : Sig sc params nm wr) (hm : params.length + m ≤ nm.length)
    (h : ∀ {A : Around} {env : Env}, Room A n → env.scope = sc → env.qual = fd.qualname ++ ".<locals>." → env.code = fd.code → SSsAt c A env nm wr body f) :
    FS c n a (fdef params.length m f) := by
  intro A z s σ vs ds d σ' R S r hf
  refine gen ?_; intro GG kGG
  unfold fdef at hf
  refine oIf hf ?_; clear hf; intro hl hf
  refine omR hf ?_; clear hf; intro dd ρ' σ₁ hrun hf; cases hf
  have X := S.kin ok
  obtain ⟨p0, loose, mg, mb, T0⟩ := ok.T
  have hlim := T0.nolimit.keeps (S.base.trans S.zh)
  refine kGG ?_; clear kGG
  refine codeAny_call_cells R.depth (X _ _ fa.obj) fa.data hlim (code_in X fa.code) fa.body (fa.bind vs (by rw [r.length]; exact hl)) fa.clo (fun y hy => ?_) (fun s₁ x => ?_) (by rw [fa.sc]; exact sg.co) (by rw [fa.sc]; exact sg.gen) (by rw [fa.sc]; exact sg.kind)
  · have hyp : y.1 ∈ params := (List.of_mem_zip (a := y.1) (b := y.2) hy).1
    rcases sg.pk y.1 hyp with h1 | ⟨h1, h2⟩
    · exact .inl (by rw [fa.sc]; exact h1)
    · exact .inr ⟨by rw [fa.sc]; exact h1, by rw [fa.sc]; exact cellsFrom_mem h2⟩
  · have T := enter (m := m) ok fa sg hm S r hl x
    refine wpAny_mono (h R.deeper (by show fd.scope = _; exact fa.sc) rfl rfl T hrun) (fun w s' hmm => ?_) fun _ _ q => q.elim
    obtain ⟨z', ad', sp, T', rf⟩ := hmm
    cases rf with
    | ret rv => exact ⟨_, rfl, z', left_post S sp T', rv⟩
theorem FS.of (ok : c.Ok) {a : Addr} {o : Obj} {fd : FuncData} {params : List Str} {body : List Stmt} {m : Nat} {f : SF} (fa : FnAt c a o fd sc body params) (sg : Sig sc params nm wr) (hm : params.length + m ≤ nm.length) (h : SSs c n sc nm wr body f) :
    FS c n a (fdef params.length m f) :=
  FS.ofAt ok fa sg hm fun R hs _ _ _ _ _ _ _ _ _ _ _ T hf => h R hs T hf
/-! ### f(e, …) -/
noncomputable def GFn (c : Cx) (x : Str) (a : Addr) : Prop := nsIn c.K mainGlobals x = some (some (.ref a)) ∧ ∃ o fd, c.K.lookup a = some o ∧ o.data = .func fd
theorem name_fn (ok : c.Ok) {A : Around} {env : Env} {z : Heap} {s : Shared} {ρ : Vars} {ad : Nat → Addr} {σ : Src} {x : Str} {a : Addr} {pos : Pos} {Q : Value → Shared → Prop} {E : Value → Shared → Prop} {M : Model} (g : GFn c x a) (V : VSt c z env s nm ρ ad σ)
    (hx : env.scope.names.lookup x = some .globalImplicit) (hd : (x == ("__debug__" : Str)) = false) (h : Q (.ref a) s) : wpAny M A (eval (.Name x pos) env) Q E s := by
  refine gen ?_; intro GG kGG
  obtain ⟨p, loose, mg, mb, T⟩ := ok.T
  have hk : Sub c.h₀ s.heap := V.st.base.trans V.st.zh
  refine kGG ?_; clear kGG
  refine Name_function_global V.kind hx (loadGlobal_global (env := env) (mg := mg) ?_ (mg_of ok.X T.g g.1) h) hd
  rw [V.glob]; exact T.g.keeps hk
noncomputable def xcall (F : List D → Src → Option (D × Src)) (g : LX) : EX := fun ρ σ => match g ρ σ with
  | some (ds, σ) => F ds σ
  | none => none
theorem SX.call (ok : c.Ok) {m : Nat} {x : Str} {a : Addr} {e : Expr} {es : List Expr} {p pos : Pos} {F : List D → Src → Option (D × Src)} {g : LX} (gf : GFn c x a) (hF : FS c m a F) (hmn : m + 1 ≤ n) (h : SL c n sc nm (e :: es) g)
    (hx : sc.names.lookup x = some .globalImplicit := by rfl) (he : ∀ env, starEach (e :: es) env = (false, eval e env) :: starEach es env := by intro; rfl) (hd : (x == ("__debug__" : Str)) = false := by decide +kernel) :
    SX c n sc nm (.Call (.Name x p) (e :: es) [] pos) (xcall F g) := by
  intro A env z s ρ ad σ d σ' R hsc V hf
  refine qgen ?_; intro QQ kQ
  refine gen ?_; intro GG kGG
  unfold xcall at hf
  first | (refine omD hf ?_; clear hf; intro ds σ₁ hds hf; try cases hf) | (refine omL hf ?_; clear hf; intro ds σ₁ hds hf; try cases hf) | (refine omB hf ?_; clear hf; intro ds σ₁ hds hf; try cases hf) | (refine omC hf ?_; clear hf; intro ds σ₁ hds hf; try cases hf) | (refine omK hf ?_; clear hf; intro ds σ₁ hds hf; try cases hf) | (refine omI hf ?_; clear hf; intro ds σ₁ hds hf; try cases hf) | (refine omT hf ?_; clear hf; intro ds σ₁ hds hf; try cases hf) | (refine omS hf ?_; clear hf; intro ds σ₁ hds hf; try cases hf) | ((split at hf <;> try cases hf); rename_i ds σ₁ hds)
  obtain ⟨g1, o, fd, g2, g3⟩ := id gf
  refine kGG ?_; clear kGG
  refine wpAny_Call_NameR (name_fn ok gf V (by rw [hsc]; exact hx) hd ?_)
  have hb : backTo pos (starEach (e :: es) env) = (false, eval e env) :: backTo pos (starEach es env) := by rw [he]; rfl
  have hh := h (pos := pos) R hsc V hds
  rw [hb] at hh ⊢
  refine callWith_function (o := o) (fd := fd) (evalArgs_plain (monoX hh fun vs s₁ z₁ p r => ?_))
  refine ⟨⟨p.st.kin ok _ _ g2, g3⟩, wpAny_call (codeAny_mono (hF (R.le hmn) p.st r hf) fun rr s' hr => ?_)⟩
  refine gen ?_; intro GG kGG
  obtain ⟨v, rfl, z', p', rv⟩ := hr
  refine kGG ?_; clear kGG
  exact (kQ _ _ ⟨z', p.trans p', rv⟩)
end
end Mine
end
section
open PySem PySem.Calls PySem.W PyProof.Rows
namespace Mine
section
variable {prog : Program} {w : World} {A : Around} {E : Value → Shared → Prop} {s : Shared} {K : Frag} {x C dx : Addr} {ox od : Obj} {es : List DictEntry} {n : Nat} {name : Str} {v : Value}
theorem my_set {Q : Unit → Shared → Prop} (X : K.In s.heap) (I : InstAt s.heap x ox C (some (dictOf es n))) (hd : ox.dict = some dx)
    (hs : findIn K (.ref C) "__setattr__" = some (some (.builtin "object.__setattr__"))) (hp : plainOver K C = true) (ht : takerIn K C name = some none) (hh : hasDictIn K C = true) (hl : (getL name es).isSome = true)
    (hz : (putL name (PyData.keyHash w.params name) (.str name (s.toks + 1)) v es).length ≤ 1000)
    (h : Q () { s with heap := s.heap.update dx (Obj.putName name (PyData.keyHash w.params name) (.str name (s.toks + 1)) v), toks := s.toks + 2 }) :
    wpAny (model prog w) A (setAttr (.ref x) name v) Q E s := by
  refine set_plain X I hs ?_
  refine osa_open (s := { s with toks := s.toks + 1 }) X I hp ht fun b => ?_
  refine gen ?_; intro GG kGG
  obtain ⟨cd, hc, hd'⟩ := any_some hh
  have D : s.heap.get? dx = some (dictOf es n) := by
    have := I.dict; rw [hd] at this; exact this
  have hlt := Heap.lt_size D
  have D' : (s.heap.update dx (Obj.putName name (PyData.keyHash w.params name) (.str name (s.toks + 1)) v)).get? dx = some (dictOf (putL name (PyData.keyHash w.params name) (.str name (s.toks + 1)) v es) (putN name es n)) := by
    have := Heap.get?_update_self (Obj.putName name (PyData.keyHash w.params name) (.str name (s.toks + 1)) v) D (by rw [putName_dict]; rfl)
    rw [this, putName_dict]
  obtain ⟨hx, hcl, hn, -⟩ := I
  obtain ⟨oc, odi, oda, osl⟩ := ox
  dsimp only at hcl hd
  subst hcl hd
  refine kGG ?_; clear kGG
  refine wpAny_bind (wpAny_pure (wpAny_bind (wpAny_bind (wpAny_loadPart (s := { s with toks := s.toks + 1 }) hx (wpAny_bind (Looks.here (s := { s with toks := s.toks + 1 }) (looks_clsIn X hc) ?_))))))
  rw [hd']
  refine wpAny_pure (a := some dx) (wpAny_bind (wpAny_pure (wpAny_bind ?_)))
  unfold nsSet
  refine wpAny_bind (wpAny_bind (wpAny_askSetting (wpAny_pure (wpAny_bind (wpAny_mkText (wpAny_bind (wpAny_loadPart (s := { s with toks := s.toks + 1 + 1 }) D ?_)))))))
  dsimp only
  have c : (!es.toArray.any (·.key.isStr name) && es.toArray.any (·.refKey)) = false := by
    rw [← Array.any_toList, ← Array.any_toList]
    unfold getL at hl
    split at hl
    · rename_i en he
      rw [List.any_eq_true.mpr ⟨en, List.mem_of_find?_eq_some he, List.find?_some he⟩]; rfl
    · split at hl
      · cases hl
      · rename_i z; rw [Bool.not_eq_true] at z; rw [z, Bool.and_false]
  rw [aRefKeyMayBeTheName_at, c]
  refine wpAny_updatePart (s := { s with toks := s.toks + 1 + 1 }) D ?_
  refine wpAny_bind (wpAny_lookBehind D' (pastItsLine_dict (by rw [List.size_toArray, sizeLine_eq]; lia)) ?_)
  exact wpAny_pure h
end
/-- a body's __init__, under way -/
structure IS (c : Cx) (z0 : Heap) (s0 : Shared) (env : Env) (x dx : Addr) (m : Str → Option Value) (nm : List Str) (ρ : Vars) (σ : Src) (es : List DictEntry) (n : Nat) (z : Heap) (s : Shared) : Prop where
  p : EPost c z0 s0 z s σ
  v : VSt c z env s nm ρ (fun _ => 0) σ
  ns : s.heap.Ns env.locals m
  self : m "self" = some (.ref x) ∧ env.kindOf "self" = some .local
  hx : s.heap.get? x = some (instObj c.C dx)
  hdx : s.heap.get? dx = some (dictOf es n)
  zx : z.get? x = none
  zdx : z.get? dx = none
  fx : s0.heap.get? x = none
  fdx : s0.heap.get? dx = none
  Fx : Fine c x
  Fdx : Fine c dx
  own : ∀ (i : Nat) (k : Cell), ρ[i]? = some k → isOwn k = false
  cells : env.cells = []
  ne : dx ≠ env.locals ∧ x ≠ dx
section
variable {c : Cx} {z0 : Heap} {s0 : Shared} {env : Env} {x dx : Addr} {m : Str → Option Value} {nm : List Str} {ρ : Vars} {σ : Src} {es : List DictEntry} {n : Nat} {z : Heap} {s : Shared}
theorem IS.post (I : IS c z0 s0 env x dx m nm ρ σ es n z s) {z' : Heap} {s' : Shared} (p : EPost c z s z' s' σ) : IS c z0 s0 env x dx m nm ρ σ es n z' s' :=
  ⟨I.p.trans p, I.v.post p, I.ns.at' fun o e => p.hk _ _ I.v.fL e, I.self, p.hk _ _ I.Fx I.hx, p.hk _ _ I.Fdx I.hdx, off_keep p I.zx I.hx, off_keep p I.zdx I.hdx, I.fx, I.fdx, I.Fx, I.Fdx, I.own, I.cells, I.ne⟩
theorem IS.set (I : IS c z0 s0 env x dx m nm ρ σ es n z s) (name : Str) (t : Tok) (v : Value) (tk : Nat) :
    IS c z0 s0 env x dx m nm ρ σ (putL name (PyData.keyHash c.w.params name) (.str name t) v es) (putN name es n) z { s with heap := s.heap.update dx (Obj.putName name (PyData.keyHash c.w.params name) (.str name t) v), toks := tk } := by
  have hk : ∀ a o, a ≠ dx → s.heap.get? a = some o → (s.heap.update dx (Obj.putName name (PyData.keyHash c.w.params name) (.str name t) v)).get? a = some o := fun a o ha e => by
    rw [Heap.get?_update_other _ _ (Ne.symm ha)]; exact e
  have hns := I.ns.at' fun o e => hk _ o I.ne.1.symm e
  refine ⟨I.p.beside (fun a => a = dx) (fun a e => by rw [e]; exact I.fdx) (fun a e => by rw [e]; exact I.zdx) (fun a e => by rw [e]; exact I.Fdx) fun a o ha e => hk a o ha e,
    ⟨I.v.st.change (tk := tk) hk I.zdx I.Fdx, I.v.kind, I.v.glob, I.v.blt, I.v.fL, I.v.fC, fun i y k hy e => ?_⟩, hns, I.self, hk _ _ I.ne.2 I.hx, ?_, I.zx, I.zdx, I.fx, I.fdx, I.Fx, I.Fdx, I.own, I.cells, I.ne⟩
  · refine (I.v.vars i y k hy e).hold (fun u hu => ?_) fun ho => by rw [I.own i k e] at ho; cases ho
    rcases hu with ⟨r1, m', r2, r3⟩ | ⟨r1, b, r2, _⟩
    · exact .inl ⟨r1, m', r2.at' fun o e => hk _ o I.ne.1.symm e, r3⟩
    · rw [I.cells] at r2; cases r2
  · have := Heap.get?_update_self (Obj.putName name (PyData.keyHash c.w.params name) (.str name t) v) I.hdx (by rw [putName_dict]; rfl)
    rw [this, putName_dict]
structure BodyCls (c : Cx) : Prop where
  makes : makesIn c.K c.C = true
  setattr : findIn c.K (.ref c.C) "__setattr__" = some (some (.builtin "object.__setattr__"))
  over : plainOver c.K c.C = true
  takers : ∀ x ∈ bodyNames, takerIn c.K c.C x = some none
  hasDict : hasDictIn c.K c.C = true
theorem init_step (ok : c.Ok) (bc : BodyCls c) (I : IS c z0 s0 env x dx m nm ρ σ es n z s) {A : Around} {value : Expr} {name : Str} {a1 a2 pos : Pos} {P : Heap → Value → Prop} {Q : Flow → Shared → Prop}
    (h : wpAny (model c.prog c.w) A (eval value env) (fun v s' => ∃ z', EPost c z s z' s' σ ∧ P z' v) no2 s) (hn : name ∈ bodyNames) (hg : (getL name es).isSome = true) (hl : es.length ≤ 900)
    (k : ∀ v t z' s', P z' v → IS c z0 s0 env x dx m nm ρ σ (putL name (c.ky name) (.str name t) v es) (putN name es n) z' s' → Q .next s')
    (hsw : swapsWith value (some (.Attribute (.Name "self" a1) name a2)) pos.line env = pure false := by rfl) :
    wpAny (model c.prog c.w) A (exec (.Assign [.Attribute (.Name "self" a1) name a2] value pos) env) Q no2 s := by
  refine plainObj_wpAny_Assign_Attribute (wpAny_mono h (fun v s₁ hmm => ?_) fun _ _ x => x) hsw
  obtain ⟨z₁, p, hP⟩ := hmm
  have I₁ := I.post p
  have X := I₁.v.st.kin ok
  refine wpAny_Name (load_var I₁.v.kind (.inl ⟨I₁.self.2, m, I₁.ns, I₁.self.1⟩) (by decide +kernel) ?_) (by decide +kernel)
  have hlen : ∀ (nm : Str) (hh : Int) (ky v : Value) (es : List DictEntry), (putL nm hh ky v es).length ≤ es.length + 1 := by
    intro nm hh ky v es
    induction es with
    | nil => simp [putL]
    | cons e r ih =>
      unfold putL
      split
      · simp
      · simpa using ih
  have := hlen name (PyData.keyHash c.w.params name) (.str name (s₁.toks + 1)) v es
  refine my_set X ⟨I₁.hx, rfl, rfl, I₁.hdx⟩ rfl bc.setattr bc.over (bc.takers name hn) bc.hasDict hg (by lia) ?_
  exact k v (s₁.toks + 1) z₁ _ hP (I₁.set name (s₁.toks + 1) v (s₁.toks + 2))
end
end Mine
end
section
open PySem PySem.Calls PySem.W PyProof.Rows
namespace Mine
inductive InitBody : List Stmt → Prop
  | mk {a1 a2 a3 a4 b1 b2 b3 b4 c1 c2 c3 c4 c5 c6 d1 d2 d3 d4 d5 d6 d7 d8 d9 e1 e2 e3 e4 e5 e6 e7 e8 e9 : Pos} {k k' : Nat} : InitBody
    [.Assign [.Attribute (.Name "self" a1) "name" a2] (.Name "name" a3) a4,
     .Assign [.Attribute (.Name "self" b1) "arg_count" b2] (.Name "arg_count" b3) b4,
     .Assign [.Attribute (.Name "self" c1) "locals" c2] (.Call (.Name "list" c3) [.Name "locals_told" c4] [] c5) c6,
     .Assign [.Attribute (.Name "self" d1) "blocks" d2] (.IfExp (.Compare (.Name "blocks" d3) [.Is] [.Constant .none k d4] d5) (.List [] d6) (.Name "blocks" d7) d8) d9,
     .Assign [.Attribute (.Name "self" e1) "spots" e2] (.IfExp (.Compare (.Name "spots" e3) [.Is] [.Constant .none k' e4] e5) (.Dict [] [] e6) (.Name "spots" e7) e8) e9]
structure InitFn (c : Cx) (fI : Addr) (oI : Obj) (fd : FuncData) (T₀ : Addr) (oT : Obj) (sc : Scope) (body : List Stmt) : Prop where
  init : findIn c.K (.ref c.C) "__init__" = some (some (.ref fI))
  initT : typeIn c.K (.ref fI) = some (.type "function")
  obj : c.K.lookup fI = some oI
  data : oI.data = .func fd
  clo : fd.closure = []
  hbody : fd.body = .stmts body
  shape : InitBody body
  hsc : fd.scope = sc
  glob : fd.globals = mainGlobals
  blt : fd.builtins = builtinsNs
  code : CodeIn c.K fd.code fd.qualname
  kind : sc.kind = .function
  co : sc.isCoroutine = false
  gen : sc.isGenerator = false
  nocell : ∀ x ∈ sc.names, x.2 ≠ .cell
  loc : ∀ x ∈ (["self", "name", "arg_count", "locals_told", "blocks", "spots"] : List Str), sc.names.lookup x = some .local
  lst : sc.names.lookup ("list" : Str) = some .globalImplicit
  dflt : c.K.lookup T₀ = some oT
theorem room_call {A : Around} {n : Nat} {C : Addr} {rest : List Value} {kw : List (Str × Value)} (R : Room A (n + 1)) : Room (A.under (.builtin "type.__call__" ⟨.ref C :: rest, kw⟩)) n := by
  have e1 : (A.under (.builtin "type.__call__" ⟨.ref C :: rest, kw⟩)).depth = A.depth + 1 := rfl
  have e2 : (A.under (.builtin "type.__call__" ⟨.ref C :: rest, kw⟩)).handled = A.handled := rfl
  have e3 : (A.under (.builtin "type.__call__" ⟨.ref C :: rest, kw⟩)).units ≤ A.units + 30 := by
    show A.units + Code.cUnits (.builtin "type.__call__" ⟨.ref C :: rest, kw⟩) ≤ _
    have : Code.cUnits (.builtin "type.__call__" ⟨.ref C :: rest, kw⟩) ≤ 30 := by
      have e4 : (Code.builtin "type.__call__" ⟨.ref C :: rest, kw⟩).frames ≤ 9 := Nat.le_trans (Nat.le_of_eq (by first | exact (rfl : _ = 1) | exact (rfl : _ = 0))) (show _ ≤ 9 by decide)
      simp only [Code.cUnits]; lia
    lia
  exact ⟨by rw [e2]; exact R.1, by rw [e1]; have := R.2.1; lia, by have := R.2.2; lia⟩
section
variable {c : Cx}
noncomputable def dfltD : D → D
  | .none => .dict [] []
  | d => d
theorem make_body (ok : c.Ok) (bc : BodyCls c) (gl : GBi c "list" (.type "list")) {fI : Addr} {oI : Obj} {fd : FuncData} {T₀ : Addr} {oT : Obj} {sc : Scope} {body : List Stmt} (fi : InitFn c fI oI fd T₀ oT sc body)
    {A : Around} {z : Heap} {s : Shared} {σ : Src} {rest : List Value} {v1 v2 v3 v5 : Value} {d1 d2 d5 : D} {ls : List D} {ad : Addr} (R : Room A 3) (S : St0 c z s σ)
    (hb : ∀ (s : Shared) (v0 : Value), s.heap.get? T₀ = some oT → BindsTo s fd ⟨v0 :: rest, []⟩ [("self", v0), ("name", v1), ("arg_count", v2), ("locals_told", v3), ("blocks", .ref ad), ("spots", v5)])
    (r1 : Rep c z v1 d1) (r2 : Rep c z v2 d2) (r3 : Rep c z v3 (.list ls)) (hls : ls.length ≤ 1000) (r5 : Rep c z v5 d5) (h5 : d5 = .none ∨ ∃ ks ds, d5 = .dict ks ds) :
    codeAny (model c.prog c.w) A (.call (.ref c.C) ⟨rest, []⟩) (fun r s' => ∃ x, r = .ok (.ret (.ref x)) ∧ ∃ z' dx od u1 u2 l u5, EPost c z s z' s' σ ∧ z'.get? x = some (instObj c.C dx) ∧ z'.get? dx = some od ∧ BodyDict c od [u1, u2, l, .ref ad, u5] ∧
      Rep c z' u1 d1 ∧ Rep c z' u2 d2 ∧ Rep c z' l (.list ls) ∧ Rep c z' u5 (dfltD d5)) s := by
  refine gen ?_; intro GG kGG
  obtain ⟨hh, g, d, t, os⟩ := s
  have X : c.K.In hh := S.kin ok
  refine kGG ?_; clear kGG
  refine make_core (makes_of X bc.makes) (looks_findIn X fi.init) (fun self => bind_fn X self fi.initT) (.inl rfl) ?_
  have hdx0 : hh.get? hh.objs.size = none := get_size _
  have hx0 : hh.get? (hh.objs.size + 1) = none := get_ge (Nat.le_succ _)
  have hk1 : ∀ b o, hh.get? b = some o → ((hh.push emptyDict).push (instObj c.C hh.objs.size)).get? b = some o := fun b o e => Heap.get?_push_of_some _ (Heap.get?_push_of_some _ e)
  have hgx : ((hh.push emptyDict).push (instObj c.C hh.objs.size)).get? (hh.objs.size + 1) = some (instObj c.C hh.objs.size) := by
    have := Heap.get?_push_size (hh.push emptyDict) (o := instObj c.C hh.objs.size) rfl
    rwa [Heap.size_push] at this
  have hgd : ((hh.push emptyDict).push (instObj c.C hh.objs.size)).get? hh.objs.size = some emptyDict := Heap.get?_push_of_some _ (Heap.get?_push_size _ rfl)
  have hszH : ((hh.push emptyDict).push (instObj c.C hh.objs.size)).objs.size = hh.objs.size + 2 := by rw [Heap.size_push, Heap.size_push]
  generalize ((hh.push emptyDict).push (instObj c.C hh.objs.size)) = H at *
  generalize hX : hh.objs.size + 1 = x at *
  generalize hDX : hh.objs.size = dx at *
  refine gen ?_; intro GG kGG
  have R' := room_call (C := c.C) (rest := rest) (kw := []) R
  obtain ⟨p0, loose, mg, mb, T0⟩ := ok.T
  have XH : c.K.In H := X.keeps hk1
  refine kGG ?_; clear kGG
  refine codeAny_call_def (s := ⟨H, g, d, t, os⟩) R'.depth (XH _ _ fi.obj) fi.data ((T0.nolimit.keeps (S.base.trans S.zh)).keeps hk1) (code_in XH fi.code) fi.hbody (hb ⟨H, g, d, t, os⟩ (.ref x) (XH _ _ fi.dflt))
    (by rw [fi.hsc]; exact fi.nocell) (fun y hy => ?_) (fun h₁ hns hk2 => ?_) (by rw [fi.hsc]; exact fi.co) (by rw [fi.hsc]; exact fi.gen) (by rw [fi.hsc]; exact fi.kind)
  · rw [fi.hsc]
    refine fi.loc _ ?_
    simp only [List.mem_cons, List.not_mem_nil, or_false] at hy
    rcases hy with rfl | rfl | rfl | rfl | rfl | rfl <;> simp
  · have hk3 : ∀ b o, hh.get? b = some o → h₁.get? b = some o := fun b o e => hk2 b o (hk1 b o e)
    have p := EPost.grown (tk := t + 6) S hk3
    have fL : hh.get? H.objs.size = none := get_ge (by show hh.objs.size ≤ H.objs.size; lia)
    have Fx := fine_new S hx0
    have Fdx := fine_new S hdx0
    have hcl : (callEnv fd H.objs.size fI).cells = [] := by first | rfl | exact fi.clo
    have kO : ∀ y ∈ (["self", "name", "arg_count", "locals_told", "blocks", "spots"] : List Str), (callEnv fd H.objs.size fI).kindOf y = some .local := fun y hy => by show fd.scope.names.lookup y = _; rw [fi.hsc]; exact fi.loc y hy
    have V : VSt c z (callEnv fd H.objs.size fI) ⟨h₁, g, d, t + 6, os⟩ ["name", "arg_count", "locals_told", "spots"] [.frz d1, .frz d2, .frz (.list ls), .frz d5] (fun _ => 0) σ := by
      refine ⟨p.st, ?_, fi.glob, fi.blt, fine_new S fL, fun y b hb' => ?_, fun i y k hy hk => ?_⟩
      · show fd.scope.kind = _; rw [fi.hsc]; exact fi.kind
      · have : (callEnv fd H.objs.size fI).cells = [] := hcl
        rw [this] at hb'; cases hb'
      · match i, hy, hk with
        | 0, hy, hk => cases hy; cases hk; exact ⟨v1, .inl ⟨kO _ (by simp), _, hns, rfl⟩, r1⟩
        | 1, hy, hk => cases hy; cases hk; exact ⟨v2, .inl ⟨kO _ (by simp), _, hns, rfl⟩, r2⟩
        | 2, hy, hk => cases hy; cases hk; exact ⟨v3, .inl ⟨kO _ (by simp), _, hns, rfl⟩, r3⟩
        | 3, hy, hk => cases hy; cases hk; exact ⟨v5, .inl ⟨kO _ (by simp), _, hns, rfl⟩, r5⟩
        | i + 4, hy, hk => simp at hy
    have I : IS c z ⟨hh, g, d, t, os⟩ (callEnv fd H.objs.size fI) x dx _ _ _ σ [] 0 z ⟨h₁, g, d, t + 6, os⟩ :=
      { p := p, v := V, ns := hns, self := ⟨rfl, kO _ (by simp)⟩, hx := hk2 _ _ hgx, hdx := hk2 _ _ hgd, zx := z_none S hx0, zdx := z_none S hdx0, fx := hx0, fdx := hdx0, Fx := Fx, Fdx := Fdx
        own := fun i k e => by
          match i, e with
          | 0, e => cases e; rfl
          | 1, e => cases e; rfl
          | 2, e => cases e; rfl
          | 3, e => cases e; rfl
          | i + 4, e => simp at e
        cells := hcl
        ne := ⟨by show dx ≠ H.objs.size; lia, by rw [← hX]; exact Nat.succ_ne_self _⟩ }
    have RR := R'.deeper (env := callEnv fd H.objs.size fI)
    have hlist : (callEnv fd H.objs.size fI).scope.names.lookup ("list" : Str) = some .globalImplicit := by show fd.scope.names.lookup _ = _; rw [fi.hsc]; exact fi.lst
    have hblk : (callEnv fd H.objs.size fI).kindOf "blocks" = some .local := kO _ (by simp)
    generalize (A.under (.builtin "type.__call__" ⟨.ref c.C :: rest, []⟩)).deeper (callEnv fd H.objs.size fI) = AA at RR ⊢
    have hkk : (callEnv fd H.objs.size fI).scope.kind = .function := V.kind
    clear hk2 hns p hb
    have hmb : ∀ m : Str → Option Value, m = (fun y => List.lookup y (List.reverse [(("self" : Str), Value.ref x), ("name", v1), ("arg_count", v2), ("locals_told", v3), ("blocks", .ref ad), ("spots", v5)])) → m "blocks" = some (.ref ad) := fun m e => by rw [e]; rfl
    have hmb' := hmb _ rfl
    generalize callEnv fd H.objs.size fI = env at *
    obtain ⟨⟩ := fi.shape
    refine wpAny_mono (Q := fun f s' => f = .next ∧ ∃ z' dx od u1 u2 l u5, EPost c z ⟨hh, g, d, t, os⟩ z' s' σ ∧ z'.get? x = some (instObj c.C dx) ∧ z'.get? dx = some od ∧ BodyDict c od [u1, u2, l, .ref ad, u5] ∧
      Rep c z' u1 d1 ∧ Rep c z' u2 d2 ∧ Rep c z' l (.list ls) ∧ Rep c z' u5 (dfltD d5)) (E := no2) ?_ (fun f s' hmm => ?_) fun _ _ q => q.elim
    case refine_2 => obtain ⟨e, q⟩ := hmm; subst e; exact ⟨rfl, x, rfl, q⟩
    have x0 : ∀ p, SX c 1 env.scope ["name", "arg_count", "locals_told", "spots"] (.Name "name" p) (xname 0) := fun p => SX.name rfl
    have x1 : ∀ p, SX c 1 env.scope ["name", "arg_count", "locals_told", "spots"] (.Name "arg_count" p) (xname 1) := fun p => SX.name rfl
    have x2 : ∀ p q r, SX c 1 env.scope ["name", "arg_count", "locals_told", "spots"] (.Call (.Name "list" p) [.Name "locals_told" q] [] r) (op1 listD (bname 2)) := fun p q r => SX.ty1 ok gl op_list (SB.name rfl) hlist
    have x3 : ∀ p q r t u v k, SX c 1 env.scope ["name", "arg_count", "locals_told", "spots"] (.IfExp (.Compare (.Name "spots" p) [.Is] [.Constant .none k q] r) (.Dict [] [] t) (.Name "spots" u) v) (xif (t2 isD (bname 3) (xk .none)) xd0 (xname 3)) := fun p q r t u v k =>
      SX.ifx (ST.cmp op_is (SB.name rfl) SX.knone.toB) (SFr.toX ok SFr.dict0) (SX.name rfl)
    refine wpAny_execs_cons (init_step ok bc I (P := fun z' v => Sub z z' ∧ Rep c z' v d1) (monoX (x0 _ RR rfl I.v rfl) fun v s' z' p r => ⟨z', p, p.zz, r⟩) (by simp [bodyNames]) rfl (by simp) fun u1 t1 z1 s1 ⟨b1, r1⟩ I1 => ?_)
    refine wpAny_execs_cons (init_step ok bc I1 (P := fun z' v => Sub z1 z' ∧ Rep c z' v d2) (monoX (x1 _ RR rfl I1.v rfl) fun v s' z' p r => ⟨z', p, p.zz, r⟩) (by simp [bodyNames]) (by rfl) (by simp [putL]) fun u2 t2 z2 s2 ⟨b2, r2⟩ I2 => ?_)
    refine wpAny_execs_cons (init_step ok bc I2 (P := fun z' v => Sub z2 z' ∧ Rep c z' v (.list ls)) (monoX (x2 _ _ _ RR rfl I2.v (by
      unfold op1 bname; simp only [List.getElem?_cons_succ, List.getElem?_cons_zero, listD, if_pos hls])) fun v s' z' p r => ⟨z', p, p.zz, r⟩) (by simp [bodyNames]) (by rfl) (Nat.le_of_ble_eq_true rfl) fun u3 t3 z3 s3 ⟨b3, r3⟩ I3 => ?_)
    refine wpAny_execs_cons (init_step ok bc I3 (P := fun z' v => Sub z3 z' ∧ v = .ref ad) ?_ (by simp [bodyNames]) (by rfl) (Nat.le_of_ble_eq_true rfl) fun u4 t4 z4 s4 ⟨b4, e4⟩ I4 => ?_)
    · refine wpAny_IfExp (wpAny_isTrue_Compare1 ?_ (by with_unfolding_all rfl))
      refine wpAny_Name (load_var hkk (.inl ⟨hblk, _, I3.ns, hmb'⟩) (by decide +kernel) ?_) (by decide +kernel)
      refine wpAny_Constant_none (is_none (wpAny_truthy_bool ?_))
      rw [if_neg (show ¬ ((Value.ref ad == Value.none) = true) from Bool.false_ne_true)]
      refine wpAny_Name (load_var hkk (.inl ⟨hblk, _, I3.ns, hmb'⟩) (by decide +kernel) ?_) (by decide +kernel)
      exact ⟨z3, .refl I3.v.st, .refl _, rfl⟩
    have h5' : xif (Mine.t2 isD (bname 3) (xk .none)) xd0 (xname 3) [.frz d1, .frz d2, .frz (.list ls), .frz d5] σ = some (dfltD d5, σ) := by
      rcases h5 with rfl | ⟨ks, ds, rfl⟩ <;> rfl
    refine wpAny_execs_cons (init_step ok bc I4 (P := fun z' v => Sub z4 z' ∧ Rep c z' v (dfltD d5)) (monoX (x3 _ _ _ _ _ _ _ RR rfl I4.v h5') fun v s' z' p r => ⟨z', p, p.zz, r⟩) (by simp [bodyNames]) (by rfl) (Nat.le_of_ble_eq_true rfl) fun u5 t5 z5 s5 ⟨b5, r5'⟩ I5 => ?_)
    refine wpAny_execs_nil ⟨rfl, ?_⟩
    refine gen ?_; intro GG kGG
    obtain ⟨z6, p6, hs6, hz6⟩ := I5.p.freeze (fun b => b = x ∨ b = dx) (fun b e => by rcases e with rfl | rfl; exact I5.fx; exact I5.fdx) (fun b e => by rcases e with rfl | rfl; exact I5.Fx; exact I5.Fdx)
    have w3 : Sub z3 z6 := b4.trans (b5.trans hs6)
    have w2 : Sub z2 z6 := b3.trans w3
    have w1 : Sub z1 z6 := b2.trans w2
    subst e4
    refine kGG ?_; clear kGG
    refine ⟨z6, dx, _, u1, u2, u3, u5, p6, (hz6 x (.inl rfl)).trans I5.hx, (hz6 dx (.inr rfl)).trans I5.hdx, ⟨u1, u2, u3, .ref ad, u5, t1, t2, t3, t4, t5, _, rfl, rfl⟩, r1.mono w1, r2.mono w2, r3.mono w3, r5'.mono hs6⟩
end
end Mine
end
section
open PySem PySem.Calls PySem.W PyProof.Rows
namespace Mine
structure InitB (c : Cx) (fd : FuncData) (T₀ : Addr) (oT : Obj) : Prop where
  b4 : ∀ (s : Shared) (v0 v1 v2 v3 v4 : Value), s.heap.get? T₀ = some oT → BindsTo s fd ⟨[v0, v1, v2, v3, v4], []⟩ [("self", v0), ("name", v1), ("arg_count", v2), ("locals_told", v3), ("blocks", v4), ("spots", .none)]
  b5 : ∀ (s : Shared) (v0 v1 v2 v3 v4 v5 : Value), s.heap.get? T₀ = some oT → BindsTo s fd ⟨[v0, v1, v2, v3, v4, v5], []⟩ [("self", v0), ("name", v1), ("arg_count", v2), ("locals_told", v3), ("blocks", v4), ("spots", v5)]
section
variable {c : Cx} {n : Nat} {sc : Scope} {nm : List Str} {wr : List Str}
theorem name_glob (ok : c.Ok) {A : Around} {env : Env} {z : Heap} {s : Shared} {ρ : Vars} {ad : Nat → Addr} {σ : Src} {x : Str} {v : Value} {pos : Pos} {Q : Value → Shared → Prop} {E : Value → Shared → Prop} {M : Model} (g : nsIn c.K mainGlobals x = some (some v)) (V : VSt c z env s nm ρ ad σ)
    (hx : env.scope.names.lookup x = some .globalImplicit) (hd : (x == ("__debug__" : Str)) = false) (h : Q v s) : wpAny M A (eval (.Name x pos) env) Q E s := by
  refine gen ?_; intro GG kGG
  obtain ⟨p, loose, mg, mb, T⟩ := ok.T
  have hk : Sub c.h₀ s.heap := V.st.base.trans V.st.zh
  refine kGG ?_; clear kGG
  refine Name_function_global V.kind hx (loadGlobal_global (env := env) (mg := mg) ?_ (mg_of ok.X T.g g) h) hd
  rw [V.glob]; exact T.g.keeps hk
noncomputable def xbody4 (g : LX) : EX := fun ρ σ => match g ρ σ with
  | some (ds, σ) => match ds with
    | [d1, d2, d3, d4] => match d3 with
      | .list ls => match d4 with
        | .list bs => if ls.length ≤ 1000 then some (.body [d1, d2, .list ls, .list bs, .dict [] []], σ) else none
        | _ => none
      | _ => none
    | _ => none
  | none => none
theorem oX {β : Type} {y : β} {ds : List D} {K : D → D → D → D → Option β} (h : (match ds with | [d1, d2, d3, d4] => K d1 d2 d3 d4 | _ => none) = some y) : ∃ d1 d2 d3 d4, ds = [d1, d2, d3, d4] ∧ K d1 d2 d3 d4 = some y := by
  rcases ds with _ | ⟨d1, _ | ⟨d2, _ | ⟨d3, _ | ⟨d4, _ | ⟨d5, ds⟩⟩⟩⟩⟩ <;> first | exact nos h | exact ⟨_, _, _, _, rfl, h⟩
theorem SX.body4 (ok : c.Ok) (bc : BodyCls c) (gl : GBi c "list" (.type "list")) {fI : Addr} {oI : Obj} {fd : FuncData} {T₀ : Addr} {oT : Obj} {sc' : Scope} {body : List Stmt} (fi : InitFn c fI oI fd T₀ oT sc' body) (bb : InitB c fd T₀ oT)
    {x : Str} {e : Expr} {es : List Expr} {p pos : Pos} {g : LX} (gn : nsIn c.K mainGlobals x = some (some (.ref c.C))) (hkeep : keepIn c.K (.ref c.C) = true) (hn : 3 ≤ n) (h : SL c n sc nm (e :: es) g)
    (hx : sc.names.lookup x = some .globalImplicit := by rfl) (he : ∀ env, starEach (e :: es) env = (false, eval e env) :: starEach es env := by intro; rfl) (hpl : ∀ env, (backTo pos (starEach es env)).any (·.1) = false := by intro; rfl)
    (hd : (x == ("__debug__" : Str)) = false := by decide +kernel) :
    SX c n sc nm (.Call (.Name x p) (e :: es) [] pos) (xbody4 g) := by
  intro A env z s ρ ad σ d σ' R hsc V hf
  refine qgen ?_; intro QQ kQ
  refine gen ?_; intro GG kGG
  unfold xbody4 at hf
  refine omL hf ?_; clear hf; intro ds σ₁ hds hf
  obtain ⟨d1, d2, d3, d4, rfl, hf⟩ := oX hf
  obtain ⟨ls, rfl, hf⟩ := oLst hf
  obtain ⟨bs, rfl, hf⟩ := oLst hf
  first | (refine oIf hf ?_; clear hf; intro hls hf; cases hf) | ((split at hf <;> cases hf); rename_i hls)
  refine kGG ?_; clear kGG
  refine wpAny_Call_NameR (name_glob ok gn V (by rw [hsc]; exact hx) hd ?_)
  refine callWith_K (V.st.kin ok) hkeep (monoX (h (pos := pos) R hsc V hds) fun vs s₁ z₁ p r => ⟨p.st.kin ok, ?_⟩) (he env) (hpl env)
  obtain ⟨v1, ws1, rfl, r1, r⟩ := r.cons_inv
  obtain ⟨v2, ws2, rfl, r2, r⟩ := r.cons_inv
  obtain ⟨v3, ws3, rfl, r3, r⟩ := r.cons_inv
  obtain ⟨v4, ws4, rfl, r4, r⟩ := r.cons_inv
  obtain rfl := r.nil_inv
  have r4' := r4
  obtain ⟨a4, us4, n4, rfl, ha, hb⟩ := r4.list_inv
  · refine wpAny_call (codeAny_mono (make_body ok bc gl fi (R.le hn) p.st (fun s v0 hs => bb.b4 s v0 _ _ _ _ hs) r1 r2 r3 hls .none (.inl rfl)) fun rr s' hr => ?_)
    refine gen ?_; intro GG kGG
    obtain ⟨x, rfl, z', dx, od, u1, u2, l, u5, p', q1, q2, q3, q4, q5, q6, q7⟩ := hr
    refine kGG ?_; clear kGG
    exact (kQ _ _ ⟨z', p.trans p', .body q1 q2 q3 (.cons q4 (.cons q5 (.cons q6 (.cons (r4'.mono p'.zz) (.cons q7 .nil)))))⟩)
/-- a function that gives a body of its own -/
noncomputable def FSO (c : Cx) (n : Nat) (a : Addr) (F : List D → Src → Option (List D × Src)) : Prop :=
  ∀ ⦃A z s σ vs ds bs σ'⦄, Room A (n + 1) → St0 c z s σ → RepL c z vs ds → F ds σ = some (bs, σ') →
    codeAny (model c.prog c.w) A (.call (.ref a) ⟨vs, []⟩) (fun r s' => ∃ v, r = .ok (.ret v) ∧ ∃ z', EPost c z s z' s' σ' ∧ ∃ ad, CRes c s.heap z' s'.heap v (.ob bs) ad) s
noncomputable def fcop (k m : Nat) (f1 : SF) (g1 g2 g3 : EX) (i : Nat) (g5 : EX) : List D → Src → Option (List D × Src) := fun ds σ => if ds.length = k then
    match f1 (vars0 ds m) σ with
    | some (.next, ρ, σ) => match g1 ρ σ with
      | some (d1, σ) => match g2 ρ σ with
        | some (d2, σ) => match g3 ρ σ with
          | some (.list ls, σ) => match ρ[i]? with
            | some (.own (.list bs)) => match g5 ρ σ with
              | some (.dict ks es, σ) => if ls.length ≤ 1000 then some ([d1, d2, .list ls, .list bs, .dict ks es], σ) else none
              | _ => none
            | _ => none
          | _ => none
        | none => none
      | none => none
    | _ => none
  else none
theorem FSO.of (ok : c.Ok) (bc : BodyCls c) (gl : GBi c "list" (.type "list")) {fI : Addr} {oI : Obj} {fdI : FuncData} {T₀ : Addr} {oT : Obj} {sc' : Scope} {bodyI : List Stmt} (fi : InitFn c fI oI fdI T₀ oT sc' bodyI) (bb : InitB c fdI T₀ oT)
    {a : Addr} {o : Obj} {fd : FuncData} {params : List Str} {m : Nat} {st1 : Stmt} {e1 e2 e3 e5 : Expr} {xC xb : Str} {pC p4 pos rp : Pos} {f1 : SF} {g1 g2 g3 g5 : EX} {i : Nat}
    (fa : FnAt c a o fd sc [st1, .Return (some (.Call (.Name xC pC) [e1, e2, e3, .Name xb p4, e5] [] pos)) rp] params) (sg : Sig sc params nm wr) (hm : params.length + m ≤ nm.length)
    (h1 : SS c n sc nm wr st1 f1) (x1 : SX c n sc nm e1 g1) (x2 : SX c n sc nm e2 g2) (x3 : SX c n sc nm e3 g3) (hi : nm[i]? = some xb) (x5 : SX c n sc nm e5 g5)
    (gn : nsIn c.K mainGlobals xC = some (some (.ref c.C))) (hkeep : keepIn c.K (.ref c.C) = true) (hn : 3 ≤ n)
    (hx : sc.names.lookup xC = some .globalImplicit := by rfl)
    (he1 : ∀ env, starEach [e1, e2, e3, .Name xb p4, e5] env = (false, eval e1 env) :: starEach [e2, e3, .Name xb p4, e5] env := by intro; rfl)
    (he2 : ∀ env, starEach [e2, e3, .Name xb p4, e5] env = (false, eval e2 env) :: starEach [e3, .Name xb p4, e5] env := by intro; rfl)
    (he3 : ∀ env, starEach [e3, .Name xb p4, e5] env = (false, eval e3 env) :: starEach [.Name xb p4, e5] env := by intro; rfl)
    (he4 : ∀ env, starEach [.Name xb p4, e5] env = (false, eval (.Name xb p4) env) :: starEach [e5] env := by intro; rfl)
    (he5 : ∀ env, starEach [e5] env = (false, eval e5 env) :: starEach [] env := by intro; rfl)
    (hpl : ∀ env, (backTo pos (starEach [e2, e3, .Name xb p4, e5] env)).any (·.1) = false := by intro; rfl)
    (hdC : (xC == ("__debug__" : Str)) = false := by decide +kernel) (hdb : (xb == ("__debug__" : Str)) = false := by decide +kernel) (hnb : (xb == ("__classdict__" : Str)) = false := by decide +kernel) :
    FSO c n a (fcop params.length m f1 g1 g2 g3 i g5) := by
  intro A z s σ vs ds bs' σ' R S r hf
  refine gen ?_; intro GG kGG
  unfold fcop at hf
  refine oIf hf ?_; clear hf; intro hl hf
  refine omN hf ?_; clear hf; intro ρ₁ σ₁ hrun hf
  first | (refine omD hf ?_; clear hf; intro d1 σ₂ hg1 hf; try cases hf) | (refine omL hf ?_; clear hf; intro d1 σ₂ hg1 hf; try cases hf) | (refine omB hf ?_; clear hf; intro d1 σ₂ hg1 hf; try cases hf) | (refine omC hf ?_; clear hf; intro d1 σ₂ hg1 hf; try cases hf) | (refine omK hf ?_; clear hf; intro d1 σ₂ hg1 hf; try cases hf) | (refine omI hf ?_; clear hf; intro d1 σ₂ hg1 hf; try cases hf) | (refine omT hf ?_; clear hf; intro d1 σ₂ hg1 hf; try cases hf) | (refine omS hf ?_; clear hf; intro d1 σ₂ hg1 hf; try cases hf) | ((split at hf <;> try cases hf); rename_i d1 σ₂ hg1)
  first | (refine omD hf ?_; clear hf; intro d2 σ₃ hg2 hf; try cases hf) | (refine omL hf ?_; clear hf; intro d2 σ₃ hg2 hf; try cases hf) | (refine omB hf ?_; clear hf; intro d2 σ₃ hg2 hf; try cases hf) | (refine omC hf ?_; clear hf; intro d2 σ₃ hg2 hf; try cases hf) | (refine omK hf ?_; clear hf; intro d2 σ₃ hg2 hf; try cases hf) | (refine omI hf ?_; clear hf; intro d2 σ₃ hg2 hf; try cases hf) | (refine omT hf ?_; clear hf; intro d2 σ₃ hg2 hf; try cases hf) | (refine omS hf ?_; clear hf; intro d2 σ₃ hg2 hf; try cases hf) | ((split at hf <;> try cases hf); rename_i d2 σ₃ hg2)
  first | (refine omD hf ?_; clear hf; intro ls σ₄ hg3 hf; try cases hf) | (refine omL hf ?_; clear hf; intro ls σ₄ hg3 hf; try cases hf) | (refine omB hf ?_; clear hf; intro ls σ₄ hg3 hf; try cases hf) | (refine omC hf ?_; clear hf; intro ls σ₄ hg3 hf; try cases hf) | (refine omK hf ?_; clear hf; intro ls σ₄ hg3 hf; try cases hf) | (refine omI hf ?_; clear hf; intro ls σ₄ hg3 hf; try cases hf) | (refine omT hf ?_; clear hf; intro ls σ₄ hg3 hf; try cases hf) | (refine omS hf ?_; clear hf; intro ls σ₄ hg3 hf; try cases hf) | ((split at hf <;> try cases hf); rename_i ls σ₄ hg3)
  refine kGG ?_; clear kGG
  refine omOwn hf ?_; clear hf; intro bs hown hf
  refine omDct hf ?_; clear hf; intro ks es σ₅ hg5 hf
  refine gen ?_; intro GG kGG
  first | (refine oIf hf ?_; clear hf; intro hls hf; cases hf) | ((split at hf <;> cases hf); rename_i hls)
  have X := S.kin ok
  obtain ⟨p0, loose, mg, mb, T0⟩ := ok.T
  have hlim := T0.nolimit.keeps (S.base.trans S.zh)
  refine kGG ?_; clear kGG
  refine codeAny_call_cells R.depth (X _ _ fa.obj) fa.data hlim (code_in X fa.code) fa.body (fa.bind vs (by rw [r.length]; exact hl)) fa.clo (fun y hy => ?_) (fun s₁ x => ?_) (by rw [fa.sc]; exact sg.co) (by rw [fa.sc]; exact sg.gen) (by rw [fa.sc]; exact sg.kind)
  · have hyp : y.1 ∈ params := (List.of_mem_zip (a := y.1) (b := y.2) hy).1
    rcases sg.pk y.1 hyp with h1 | ⟨h1, h2⟩
    · exact .inl (by rw [fa.sc]; exact h1)
    · exact .inr ⟨by rw [fa.sc]; exact h1, by rw [fa.sc]; exact cellsFrom_mem h2⟩
  · have T := enter (m := m) ok fa sg hm S r hl x
    have RD := R.deeper (env := callEnvC fd s.heap.objs.size a)
    have hsc : (callEnvC fd s.heap.objs.size a).scope = sc := fa.sc
    refine wpAny_execs_cons (wpAny_mono (h1 RD hsc T hrun) (fun w s' hmm => ?_) fun _ _ q => q.elim)
    refine gen ?_; intro GG kGG
    obtain ⟨z', ad', sp, T', rf⟩ := hmm
    cases rf
    refine kGG ?_; clear kGG
    refine wpAny_execs_cons (wpAny_Return_some ?_)
    refine wpAny_Call_NameR (name_glob ok gn T'.v (by rw [hsc]; exact hx) hdC ?_)
    refine wpAny_mono (E := no2) (Q := fun v s'' => ∃ z'', EPost c z s z'' s'' σ' ∧ ∃ ad, CRes c s.heap z'' s''.heap v (.ob [d1, d2, .list ls, .list bs, .dict ks es]) ad) ?_ (fun v s'' q => ⟨v, rfl, q⟩) fun _ _ q => q.elim
    refine callWith_K (T'.v.st.kin ok) hkeep ?_ (he1 _) (hpl _)
    refine wpAny_items_cons (monoX (x1 RD hsc T'.v hg1) fun v1 s1 z1 p1 r1 => ?_) (he1 _)
    have T1 := T'.post p1
    refine wpAny_items_cons (monoX (x2 RD hsc T1.v hg2) fun v2 s2 z2 p2 r2 => ?_) (he2 _)
    have T2 := T1.post p2
    refine wpAny_items_cons (monoX (x3 RD hsc T2.v hg3) fun v3 s3 z3 p3 r3 => ?_) (he3 _)
    have T3 := T2.post p3
    obtain ⟨q1, _⟩ := T3.v.vars i xb _ hi hown
    refine wpAny_items_cons (wpAny_Name (load_var T3.v.kind q1 hnb ?_) hdb) (he4 _)
    refine wpAny_items_cons (monoX (x5 RD hsc T3.v hg5) fun v5 s5 z5 p5 r5 => ?_) (he5 _)
    have T5 := T3.post p5
    refine wpAny_items_nil ⟨T5.v.st.kin ok, ?_⟩
    refine wpAny_call (codeAny_mono (make_body ok bc gl fi (A := _) (R := RD.le hn) (S := T5.v.st) (hb := fun s v0 hs => bb.b5 s v0 _ _ _ _ _ hs) (r1 := r1.mono (p2.zz.trans (p3.zz.trans p5.zz))) (r2 := r2.mono (p3.zz.trans p5.zz)) (r3 := r3.mono p5.zz) (hls := hls) (r5 := r5) (h5 := .inr ⟨_, _, rfl⟩)) fun rr s6 hr => ?_)
    refine gen ?_; intro GG kGG
    obtain ⟨xx, rfl, z6, dx, od, u1, u2, l, u5, p6, k1, k2, k3, k4, k5, k6, k7⟩ := hr
    have T6 := T5.post p6
    have sp6 : SPost c (fineOf c s.heap) z z6 := sp.trans ((T'.spost p1).trans ((T1.spost p2).trans ((T2.spost p3).trans ((T3.spost p5).trans (T5.spost p6)))))
    obtain ⟨_, c2, c3, c4, oo, c5, c6⟩ := T6.v.vars i xb _ hi hown
    obtain ⟨gn0, _⟩ := T6.own i _ hown rfl
    refine kGG ?_; clear kGG
    refine ⟨z6, left_post S sp6 T6, ad' i, ?_, c2, c3, ?_⟩
    · unfold fineOf at gn0
      rw [if_pos c3] at gn0
      exact gn0
    · exact ⟨xx, dx, od, u1, u2, l, u5, d1, d2, .list ls, bs, .dict ks es, oo, rfl, rfl, k1, k2, k3, .cons k4 (.cons k5 (.cons k6 (.cons k7 .nil))), c5, c6⟩
/-! ### found = copied(body) -/
noncomputable def cob (F : List D → Src → Option (List D × Src)) (g : LX) : CXf := fun ρ σ => match g ρ σ with
  | some (ds, σ) => match F ds σ with
    | some (bs, σ) => some (.ob bs, σ)
    | none => none
  | none => none
theorem SC.call (ok : c.Ok) {m : Nat} {x : Str} {a : Addr} {e : Expr} {es : List Expr} {p pos : Pos} {F : List D → Src → Option (List D × Src)} {g : LX} (gf : GFn c x a) (hF : FSO c m a F) (hmn : m + 1 ≤ n) (h : SL c n sc nm (e :: es) g)
    (hx : sc.names.lookup x = some .globalImplicit := by rfl) (he : ∀ env, starEach (e :: es) env = (false, eval e env) :: starEach es env := by intro; rfl) (hd : (x == ("__debug__" : Str)) = false := by decide +kernel) :
    SC c n sc nm (.Call (.Name x p) (e :: es) [] pos) (cob F g) := by
  intro A env z s ρ ad σ k σ' R hsc V hf
  refine qgen ?_; intro QQ kQ
  refine gen ?_; intro GG kGG
  unfold cob at hf
  first | (refine omD hf ?_; clear hf; intro ds σ₁ hds hf; try cases hf) | (refine omL hf ?_; clear hf; intro ds σ₁ hds hf; try cases hf) | (refine omB hf ?_; clear hf; intro ds σ₁ hds hf; try cases hf) | (refine omC hf ?_; clear hf; intro ds σ₁ hds hf; try cases hf) | (refine omK hf ?_; clear hf; intro ds σ₁ hds hf; try cases hf) | (refine omI hf ?_; clear hf; intro ds σ₁ hds hf; try cases hf) | (refine omT hf ?_; clear hf; intro ds σ₁ hds hf; try cases hf) | (refine omS hf ?_; clear hf; intro ds σ₁ hds hf; try cases hf) | ((split at hf <;> try cases hf); rename_i ds σ₁ hds)
  first | (refine oD hf ?_; clear hf; intro bs hF' hf; try cases hf) | ((split at hf <;> cases hf); rename_i bs hF')
  obtain ⟨g1, o, fd, g2, g3⟩ := id gf
  refine kGG ?_; clear kGG
  refine wpAny_Call_NameR (name_fn ok gf V (by rw [hsc]; exact hx) hd ?_)
  have hb : backTo pos (starEach (e :: es) env) = (false, eval e env) :: backTo pos (starEach es env) := by rw [he]; rfl
  have hh := h (pos := pos) R hsc V hds
  rw [hb] at hh ⊢
  refine callWith_function (o := o) (fd := fd) (evalArgs_plain (monoX hh fun vs s₁ z₁ p r => ?_))
  refine ⟨⟨p.st.kin ok _ _ g2, g3⟩, wpAny_call (codeAny_mono (hF (R.le hmn) p.st r hF') fun rr s' hr => ?_)⟩
  refine gen ?_; intro GG kGG
  obtain ⟨v, rfl, z', p', ad', c1, c2, c3, c4⟩ := hr
  refine kGG ?_; clear kGG
  exact (kQ _ _ ⟨z', p.trans p', ad', old_none p.st p c1, c2, c3, c4⟩)
end
end Mine
end
section
open PySem PySem.Calls PySem.W PyProof.Rows
namespace Mine
section
variable {c : Cx} {n : Nat} {sc : Scope} {nm : List Str} {wr : List Str}
/-- the blocks of a body of one's own turn -/
theorem SSt.mutOb {g : Addr → Option Obj} {z : Heap} {env : Env} {s : Shared} {ρ : Vars} {ad : Nat → Addr} {σ : Src} (T : SSt c g wr z env s nm ρ ad σ) {i : Nat} {ds ds' : List D} (hk : ρ[i]? = some (.ob ds)) {h' : Heap} {tk : Nat}
    (hs : ∀ b o, b ≠ ad i → s.heap.get? b = some o → h'.get? b = some o) (hr : ∀ v, ObRep c z s.heap (ad i) v ds → ObRep c z h' (ad i) v ds') : SSt c g wr z env { s with heap := h', toks := tk } nm (ρ.set i (.ob ds')) ad σ := by
  refine gen ?_; intro GG kGG
  have hi : i < nm.length := Nat.lt_of_lt_of_le (List.getElem?_eq_some_iff.mp hk).1 T.len
  have hni := List.getElem?_eq_getElem hi
  obtain ⟨vi, q1, q2, q3, q4⟩ := T.v.vars i _ _ hni hk
  obtain ⟨oi, di, q5, q6⟩ := T.own_obj hni hk rfl
  obtain ⟨q7, q8⟩ := T.own i _ hk rfl
  have hset : ∀ {j : Nat} {k' : Cell}, (ρ.set i (.ob ds'))[j]? = some k' → j ≠ i → ρ[j]? = some k' := fun {j k'} e hj => by
    rw [List.getElem?_set_ne (fun q => hj q.symm)] at e; exact e
  have hseti : ∀ {k' : Cell}, (ρ.set i (.ob ds'))[i]? = some k' → k' = .ob ds' := fun {k'} e => by
    rw [List.getElem?_set] at e
    simp only [if_true] at e
    split at e <;> cases e
    rfl
  have hown : ∀ {j : Nat} {k' : Cell}, (ρ.set i (.ob ds'))[j]? = some k' → isOwn k' = true → ∃ k, ρ[j]? = some k ∧ isOwn k = true := fun {j k'} e ho => by
    by_cases hj : j = i
    · subst hj; exact ⟨_, hk, rfl⟩
    · exact ⟨_, hset e hj, ho⟩
  have hnc : ∀ {b : Addr} {w : Option Value}, s.heap.IsCell b w → b ≠ ad i := fun {b w} ⟨o, e1, e2⟩ q => by
    subst q
    rw [q5] at e1; cases e1
    exact orep_not_cell q6 e2
  have hvar : ∀ {y : Str} {u : Value}, Var env s.heap y u → Var env h' y u := fun {y u} hu => by
    rcases hu with ⟨r1, m', r2, r3⟩ | ⟨r1, b', r2, r3⟩
    · exact .inl ⟨r1, m', r2.at' fun o e => hs _ o q8.symm e, r3⟩
    · obtain ⟨o, r4, r5⟩ := id r3
      exact .inr ⟨r1, b', r2, o, hs _ _ (hnc r3) r4, r5⟩
  refine kGG ?_; clear kGG
  refine ⟨⟨T.v.st.change hs q2 q3, T.v.kind, T.v.glob, T.v.blt, T.v.fL, T.v.fC, fun j y k' hy e => ?_⟩, by rw [List.length_set]; exact T.len, fun b o e => hs b o (fun q => by subst q; rw [q7] at e; cases e) (T.keep b o e), T.gF, T.gL, T.zL, ?_, fun x hx => ?_, fun x b h => ?_, T.cd, ?_, ?_⟩
  · by_cases hj : j = i
    · subst hj
      obtain rfl := hseti e
      obtain rfl := Option.some.inj (hy.symm.trans hni)
      exact ⟨vi, hvar q1, q2, q3, hr _ q4⟩
    · refine (T.v.vars j y k' hy (hset e hj)).hold (fun u hu => hvar hu) fun ho' o e' => hs _ o (fun q => hj (T.od j i _ _ (hset e hj) hk ho' rfl q)) e'
  · obtain ⟨m, hm⟩ := T.ns
    exact ⟨m, hm.at' fun o e => hs _ o q8.symm e⟩
  · obtain ⟨b', w', r1, r2, r3, r4, r5⟩ := T.cel x hx
    obtain ⟨o, r6, r7⟩ := id r5
    exact ⟨b', w', r1, r2, r3, r4, o, hs _ _ (hnc r5) r6, r7⟩
  · obtain ⟨w, r5⟩ := T.cx x b h
    obtain ⟨o, r6, r7⟩ := id r5
    exact ⟨w, o, hs _ _ (hnc r5) r6, r7⟩
  · intro j k' e ho'
    obtain ⟨k, e1, e2⟩ := hown e ho'
    exact T.own j k e1 e2
  · intro j j' k₁ k₂ e1 e2 o1 o2 e
    refine gen ?_; intro GG kGG
    obtain ⟨k3, e3, e4⟩ := hown e1 o1
    obtain ⟨k5, e5, e6⟩ := hown e2 o2
    refine kGG ?_; clear kGG
    exact T.od j j' k3 k5 e3 e5 e4 e6 e
noncomputable def setOb (ds : List D) (k : Int) (d : D) : Option (List D) := match ds with
  | [d1, d2, d3, d4, d5] => match d4 with
    | .list bs => if 0 ≤ k ∧ k < bs.length ∧ bs.length ≤ 1000 then some [d1, d2, d3, .list (bs.set k.toNat d), d5] else none
    | _ => none
  | _ => none
theorem oY {β : Type} {y : β} {ds : List D} {K : D → D → D → D → D → Option β} (h : (match ds with | [d1, d2, d3, d4, d5] => K d1 d2 d3 d4 d5 | _ => none) = some y) : ∃ d1 d2 d3 d4 d5, ds = [d1, d2, d3, d4, d5] ∧ K d1 d2 d3 d4 d5 = some y := by
  rcases ds with _ | ⟨d1, _ | ⟨d2, _ | ⟨d3, _ | ⟨d4, _ | ⟨d5, _ | ⟨d6, ds⟩⟩⟩⟩⟩⟩ <;> first | exact nos h | exact ⟨_, _, _, _, _, rfl, h⟩
noncomputable def sputOb (i : Nat) (fk fv : EX) : SF := fun ρ σ => match fv ρ σ with
  | some (d, σ) => match fk ρ σ with
    | some (.int k, σ) => match ρ[i]? with
      | some (.ob ds) => match setOb ds k d with
        | some ds' => some (.next, ρ.set i (.ob ds'), σ)
        | none => none
      | _ => none
    | _ => none
  | none => none
theorem repl_set {z : Heap} {v : Value} {d : D} (r : Rep c z v d) : ∀ {vs : List Value} {ds : List D} (j : Nat), RepL c z vs ds → RepL c z (vs.set j v) (ds.set j d)
  | _, _, _, .nil => .nil
  | _, _, 0, .cons _ q => .cons r q
  | _, _, j + 1, .cons p q => .cons p (repl_set r j q)
theorem SS.putOb (ok : c.Ok) {x : Str} {ek ev : Expr} {p1 p2 p' pos : Pos} {i : Nat} {fk fv : EX} (hi : nm[i]? = some x) (hk1 : SX c n sc nm ek fk) (hv1 : SX c n sc nm ev fv)
    (hd : (x == ("__debug__" : Str)) = false := by decide +kernel) (hn : (x == ("__classdict__" : Str)) = false := by decide +kernel)
    (hsw : ∀ env, swapsWith ev (some (.Subscript (.Attribute (.Name x p1) "blocks" p2) ek p')) pos.line env = pure false := by intro _; rfl)
    (he : ∀ env, eval (.Attribute (.Name x p1) "blocks" p2) env = (do
      let o ← eval (.Name x p1) env
      standAt p2.atName
      let r ← holding [o] (getAttr o "blocks" true)
      letTemporaryGo (.Name x p1) o r
      pure r) := by intro _; with_unfolding_all rfl) :
    SS c n sc nm wr (.Assign [.Subscript (.Attribute (.Name x p1) "blocks" p2) ek p'] ev pos) (sputOb i fk fv) := by
  intro A env g z s ρ ad σ fl ρ' σ' R hs T hf
  refine qgen ?_; intro QQ kQ
  refine gen ?_; intro GG kGG
  unfold sputOb at hf
  first | (refine omD hf ?_; clear hf; intro d σ₁ hd1 hf; try cases hf) | (refine omL hf ?_; clear hf; intro d σ₁ hd1 hf; try cases hf) | (refine omB hf ?_; clear hf; intro d σ₁ hd1 hf; try cases hf) | (refine omC hf ?_; clear hf; intro d σ₁ hd1 hf; try cases hf) | (refine omK hf ?_; clear hf; intro d σ₁ hd1 hf; try cases hf) | (refine omI hf ?_; clear hf; intro d σ₁ hd1 hf; try cases hf) | (refine omT hf ?_; clear hf; intro d σ₁ hd1 hf; try cases hf) | (refine omS hf ?_; clear hf; intro d σ₁ hd1 hf; try cases hf) | ((split at hf <;> try cases hf); rename_i d σ₁ hd1)
  first | (refine omD hf ?_; clear hf; intro k σ₂ hd2 hf; try cases hf) | (refine omL hf ?_; clear hf; intro k σ₂ hd2 hf; try cases hf) | (refine omB hf ?_; clear hf; intro k σ₂ hd2 hf; try cases hf) | (refine omC hf ?_; clear hf; intro k σ₂ hd2 hf; try cases hf) | (refine omK hf ?_; clear hf; intro k σ₂ hd2 hf; try cases hf) | (refine omI hf ?_; clear hf; intro k σ₂ hd2 hf; try cases hf) | (refine omT hf ?_; clear hf; intro k σ₂ hd2 hf; try cases hf) | (refine omS hf ?_; clear hf; intro k σ₂ hd2 hf; try cases hf) | ((split at hf <;> try cases hf); rename_i k σ₂ hd2)
  refine kGG ?_; clear kGG
  split at hf <;> try cases hf
  refine gen ?_; intro GG kGG
  rename_i ds hk
  first | (refine oD hf ?_; clear hf; intro ds' hset hf; try cases hf) | ((split at hf <;> cases hf); rename_i ds' hset)
  unfold setOb at hset
  obtain ⟨d1, d2, d3, d4, d5, rfl, hset⟩ := oY hset
  obtain ⟨bs, rfl, hset⟩ := oLst hset
  first | (refine oIf hset ?_; clear hset; intro hb hset; cases hset) | ((split at hset <;> cases hset); rename_i hb)
  refine kGG ?_; clear kGG
  refine wpAny_Assign_Subscript (monoX (hv1 R hs T.v hd1) fun v s₁ z₁ p r => ?_) (hsw env)
  refine gen ?_; intro GG kGG
  have T₁ := T.post p
  obtain ⟨v0, q1, q2, q3, x0, dx, od, v1, v2, v3, v5, e1, e2, e3, bs', e5, oo, rfl, ee, q4, q5, q6, q7, q8, q9⟩ := T₁.v.vars i x _ hi hk
  cases ee
  refine kGG ?_; clear kGG
  refine Attribute_any_ (wpAny_Name (load_var T₁.v.kind q1 hn ?_) hd) (he env)
  obtain ⟨cd, c1, c2⟩ := ok.cls
  have I : InstAt s₁.heap x0 (instObj c.C dx) c.C (some od) := ⟨T₁.v.st.zh _ _ q4, rfl, rfl, T₁.v.st.zh _ _ q5⟩
  refine get_value (T₁.v.st.kin ok) I ok.ga (findObj_of c1 c2 (ok.no _ (by simp [bodyNames])) (body_get (k := 3) q6 rfl rfl)) rfl ?_
  have T₂ := T₁.post (EPost.toks T₁.v.st (s₁.toks + 1))
  have spT := (T₁.spost (EPost.toks T₁.v.st (s₁.toks + 1)))
  refine monoX (hk1 R hs T₂.v hd2) fun kv s₃ z₃ p₃ rk => ?_
  refine gen ?_; intro GG kGG
  have T₃ := T₂.post p₃
  obtain ⟨t, rfl⟩ := rk.int_inv
  obtain ⟨vs, m, rfl, rvs⟩ := q9
  have hlen := rvs.length
  have h8 : s₃.heap.get? (ad i) = some { cls := .type "list", data := .seq vs.toArray m } := p₃.hk _ _ q3 q8
  refine kGG ?_; clear kGG
  refine ki_setAt (items := vs.toArray) (n := m) h8 hb.1 (by omega) (by rw [List.size_toArray]; omega) ?_
  have hu := get?_update_seq (c := "list") h8 (fun xs => xs.setIfInBounds k.toNat v)
  have e0 : vs.toArray.setIfInBounds k.toNat v = (vs.set k.toNat v).toArray := by
    apply Array.toList_inj.mp
    simp
  rw [e0] at hu
  refine (kQ _ _ ⟨z₃, ad, (T.spost p).trans (spT.trans (T₂.spost p₃)), T₃.mutOb hk (tk := s₃.toks) (fun b o hb' e => by rw [Heap.get?_update_other _ _ (Ne.symm hb')]; exact e) (fun u hu' => ?_), .next⟩)
  refine gen ?_; intro GG kGG
  obtain ⟨x0', dx', od', v1', v2', v3', v5', e1', e2', e3', bs'', e5', oo', rfl, ee', k4, k5, k6, k7, k8, vs', m', rfl, k9⟩ := hu'
  cases ee'
  rw [h8] at k8
  cases k8
  refine kGG ?_; clear kGG
  exact ⟨x0', dx', od', v1', v2', v3', v5', _, _, _, _, _, _, rfl, rfl, k4, k5, k6, k7, hu, vs.set k.toNat v, _, rfl, repl_set (r.mono p₃.zz) _ k9⟩
end
end Mine
end
section
open PySem PySem.Calls PySem.W PyProof.Rows
namespace Mine
structure LamOk (c : Cx) : Prop where
  head : CodeHd c.h₀ c.cT c.P
  blt : ∃ mg, c.h₀.Ns mainGlobals mg ∧ c.h₀.BuiltinsAt mg c.P
  clo : ∀ (env : Env) (a : Addr), env.cells.lookup ("body" : Str) = some a → closureFor c.lscope env = pure [(("body" : Str), a)]
  dflt : ∀ env : Env, defaultsOf c.lparams env = ([], [])
  bind : ∀ (pm ctv : Value) (cd a : Addr) (v : Value), bindArgs (kla_fn "<lambda>" c.lqual c.lparams c.lbody c.lscope [("body", a)] pm (.ref cd) ctv) ⟨[v], []⟩ = pure [(("block" : Str), v)]
  kind : c.lscope.kind = .function
  co : c.lscope.isCoroutine = false
  gen : c.lscope.isGenerator = false
  nocell : ∀ x ∈ c.lscope.names, x.2 ≠ .cell
  block : c.lscope.names.lookup ("block" : Str) = some .local
  body : c.lscope.names.lookup ("body" : Str) = some .free
mutual
noncomputable def noLam : D → Bool
  | .lam _ => false
  | .tup ds => noLams ds
  | .list ds => noLams ds
  | .dict _ ds => noLams ds
  | .body ds => noLams ds
  | _ => true
noncomputable def noLams : List D → Bool
  | [] => true
  | d :: ds => noLam d && noLams ds
end
theorem Rep.drop {c : Cx} {z z' : Heap} {cc : Addr} {oc : Obj} {w : Option Value} (hcc : z.get? cc = some oc) (hd : oc.data = .cell w) (hz : ∀ a, a ≠ cc → z'.get? a = z.get? a) {v : Value} {d : D} (h : Rep c z v d) : noLam d = true → Rep c z' v d := by
  have key : ∀ {a : Addr} {o : Obj}, z.get? a = some o → o.data ≠ .cell w → z'.get? a = some o := fun {a o} e hne => by
    rw [hz a fun q => by subst q; rw [hcc] at e; cases e; exact hne hd]; exact e
  refine Rep.rec (motive_1 := fun v d _ => noLam d = true → Rep c z' v d) (motive_2 := fun vs ds _ => noLams ds = true → RepL c z' vs ds) (fun _ => .none) (fun b _ => .bool b) (fun i t _ => .int i t) (fun x t h _ => .str x t h)
    ?_ ?_ ?_ ?_ (fun h _ => .src h) (fun _ _ _ k => by cases k) (fun _ => .nil) ?_ h
  · exact fun h _ ih k => .tup (key h fun q => nomatch q) (ih k)
  · exact fun h _ ih k => .list (key h fun q => nomatch q) (ih k)
  · intro a ks kvs vs ds h n e e' _ ih k
    refine gen ?_; intro GG kGG
    obtain ⟨o, es, ep, ho, q1, q2, q3⟩ := h
    refine kGG ?_; clear kGG
    exact .dict ⟨o, es, ep, key ho fun q => (by rw [q2] at q; cases q), q1, q2, q3⟩ n e e' (ih k)
  · intro x dx od vs ds h1 h2 h3 _ ih k
    refine .body (key h1 fun q => nomatch q) (key h2 fun q => ?_) h3 (ih k)
    refine gen ?_; intro GG kGG
    obtain ⟨_, _, _, _, _, _, _, _, _, _, _, _, e⟩ := h3
    refine kGG ?_; clear kGG
    rw [e] at q; cases q
  · intro v vs d ds _ _ ih1 ih2 k
    have k' : (noLam d && noLams ds) = true := k
    obtain ⟨k1, k2⟩ := Bool.and_eq_true_iff.mp k'
    exact .cons (ih1 k1) (ih2 k2)
theorem empty_get (a : Addr) : ({ objs := #[] } : Heap).get? a = none := get_ge (Nat.zero_le _)
section
variable {c : Cx} {n : Nat} {sc : Scope} {nm : List Str} {wr : List Str}
/-- a cell that was taken up for a while is let go -/
theorem EPost.drop {z z1 z' : Heap} {s s' : Shared} {σ σ' : Src} {cc : Addr} {oc : Obj} {w : Option Value} (S : St0 c z s σ) (h0 : z.get? cc = none) (h1 : z1.get? cc = some oc) (hd : oc.data = .cell w) (hs : ∀ a, a ≠ cc → z1.get? a = z.get? a) (p : EPost c z1 s z' s' σ') :
    ∃ z'', EPost c z s z'' s' σ' ∧ ∀ v d, noLam d = true → Rep c z' v d → Rep c z'' v d := by
  obtain ⟨z'', k1, k2⟩ := Mine.freeze (z := { objs := #[] }) (h := z') (fun a o e => by rw [empty_get] at e; cases e) (fun a => a ≠ cc)
  have hcc : z'.get? cc = some oc := p.zz _ _ h1
  have hn : z''.get? cc = none := by rw [k2 cc fun q => q rfl]; exact empty_get _
  have base0 : c.h₀.get? cc = none := by
    cases e : c.h₀.get? cc with
    | none => rfl
    | some o => rw [S.base _ _ e] at h0; cases h0
  refine ⟨z'', ⟨⟨fun a o e => ?_, fun a o e => ?_, p.st.gens, p.st.os, fun a ha => ⟨?_, (p.st.src a ha).at_⟩, ?_, ?_⟩, fun a o e => ?_, fun a ha => ?_, p.hk⟩, fun v d hd' r => r.drop hcc hd (fun a ha => k1 a ha) hd'⟩
  · by_cases q : a = cc
    · subst q; rw [hn] at e; cases e
    · rw [k1 a q] at e; exact p.st.zh _ _ e
  · rw [k1 a fun q => by subst q; rw [base0] at e; cases e]; exact p.st.base _ _ e
  · by_cases q : a = cc
    · subst q; exact hn
    · rw [k1 a q]; exact (p.st.src a ha).off
  · by_cases q : c.P = cc
    · rw [q]; exact hn
    · rw [k1 _ q]; exact p.st.tabz
  · obtain ⟨ps, e1, e2⟩ := p.st.tab
    refine ⟨ps, e1, e2.imp id ?_⟩
    rintro ⟨cd, e3, cq, o, vs, t, e4, e5, e6, e7⟩
    refine ⟨cd, e3, cq, o, vs, t, e4, ?_, e6, e7⟩
    rw [k1 cq fun q => by subst q; rw [hcc] at e5; cases e5; rw [hd] at e6; cases e6]
    exact e5
  · have q : a ≠ cc := fun q => by subst q; rw [h0] at e; cases e
    rw [k1 a q]
    exact p.zz _ _ (by rw [hs a q]; exact e)
  · by_cases q : a = cc
    · subst q; exact absurd hn ha
    · rw [k1 a q] at ha
      rcases p.zn a ha with h | h
      · rw [hs a q] at h; exact .inl h
      · exact .inr h
/-- a lambda is made -/
theorem make_lam (lo : LamOk c) {A : Around} {env : Env} {z : Heap} {s : Shared} {σ : Src} {cc : Addr} {oc : Obj} {vb : Value} {db : D} (S : St0 c z s σ) (hq : env.qual ++ "<lambda>" = c.lqual) (hcode : env.code = .ref c.cT) (hglob : env.globals = mainGlobals)
    (hcc : env.cells.lookup ("body" : Str) = some cc) (hz : z.get? cc = some oc) (hd : oc.data = .cell (some vb)) (rb : Rep c z vb db) :
    wpAny (model c.prog c.w) A (eval (.Lambda c.lparams c.lbody c.lscope c.lpos) env) (fun v s' => ∃ z', EPost c z s z' s' σ ∧ Rep c z' v (.lam db)) no2 s := by
  refine gen ?_; intro GG kGG
  obtain ⟨mg, hg, hb⟩ := lo.blt
  have hbase : Sub c.h₀ s.heap := S.base.trans S.zh
  have hg' := hg.keeps hbase
  obtain ⟨bm, ob, b1, b2, b3, b4, b5, b6⟩ := hb
  have hb' : s.heap.BuiltinsAt mg c.P := ⟨bm, ob, b1, b2, b3, b4, hbase _ _ b5, b6⟩
  have hgP : mainGlobals ≠ c.P := fun q => by
    obtain ⟨o, es, ep, e, _⟩ := hg
    have := S.base _ _ e
    rw [q, S.tabz] at this; cases this
  obtain ⟨ps, hP, hps⟩ := S.tab
  refine kGG ?_; clear kGG
  refine kla_eval (lo.dflt env) ?_
  rw [hq]
  -- what is made is taken up
  have fin : ∀ {H : Heap} {tk : Nat} {f c' : Addr} {ctv : Value}, (∀ a o, a ≠ c.P → s.heap.get? a = some o → H.get? a = some o) → s.heap.get? f = none → H.get? f = some (kla_obj "<lambda>" c.lqual c.lparams c.lbody c.lscope [("body", cc)] ((mg "__name__").getD .none) c' ctv) →
      H.CodeRec (.ref c') c.lqual → (s.heap.get? c' = none ∨ z.CodeRec (.ref c') c.lqual) → H.get? c.P = some (tabObj #[rawInt c.lpos.line, rawInt c.lpos.col, .ref c']) →
      ∃ z', EPost c z s z' { s with heap := H, toks := tk } σ ∧ Rep c z' (.ref f) (.lam db) := by
    intro H tk f c' ctv hk hf hfo hrec hc hPt
    have zP : ∀ {a : Addr} {o : Obj}, z.get? a = some o → a ≠ c.P := fun {a o} e q => by rw [q, S.tabz] at e; cases e
    have hzH : Sub z H := fun a o e => hk a o (zP e) (S.zh _ _ e)
    obtain ⟨z', h3, h4⟩ := Mine.freeze hzH (fun a => a = f ∨ (a = c' ∧ s.heap.get? c' = none))
    have Ff := fine_new S hf
    have hs : Sub z z' := fun a o e => by
      by_cases ha : a = f ∨ (a = c' ∧ s.heap.get? c' = none)
      · rw [h3 a ha]; exact hzH _ _ e
      · rw [h4 a ha]; exact e
    have hrec' : z'.CodeRec (.ref c') c.lqual := by
      rcases hc with hc | hc
      · obtain ⟨c2, o, vs, t, e1, e2, e3, e4⟩ := hrec
        cases e1
        exact ⟨c', o, vs, t, rfl, by rw [h3 c' (.inr ⟨rfl, hc⟩)]; exact e2, e3, e4⟩
      · exact hc.keeps hs
    have hF : ∀ a, (a = f ∨ (a = c' ∧ s.heap.get? c' = none)) → s.heap.get? a = none := fun a ha => by
      rcases ha with rfl | ⟨rfl, q⟩
      · exact hf
      · exact q
    have hz'f : z'.get? f = some _ := (h3 f (.inl rfl)).trans hfo
    refine ⟨z', ⟨⟨fun a o e => ?_, S.base.trans hs, S.gens, S.os, fun a ha => ⟨?_, ?_⟩, ?_, _, hPt, .inr ⟨c', rfl, hrec'⟩⟩, hs, fun a ha => ?_, fun a o fa e => hk a o fa.2 e⟩, .lam ⟨_, c', ctv, cc, oc, hz'f, hs _ _ hz, hd, hrec'⟩ (rb.mono hs)⟩
    · by_cases q : a = f ∨ (a = c' ∧ s.heap.get? c' = none)
      · rw [h3 a q] at e; exact e
      · rw [h4 a q] at e; exact hzH _ _ e
    · have hsa := S.src a ha
      have q : ¬ (a = f ∨ (a = c' ∧ s.heap.get? c' = none)) := fun q => by
        have := hF a q
        obtain ⟨t, u, o, e1, _⟩ := hsa.at_
        rw [this] at e1; cases e1
      rw [h4 a q]; exact hsa.off
    · obtain ⟨t, u, e⟩ := (S.src a ha).at_
      refine ⟨t, u, e.at fun o e' => hk _ _ (fun q => ?_) e'⟩
      obtain ⟨o, e1, e2, n, e3⟩ := e
      rw [q, hP] at e1
      cases e1; cases e2
    · have q : ¬ (c.P = f ∨ (c.P = c' ∧ s.heap.get? c' = none)) := fun q => by
        have := hF c.P q
        rw [hP] at this; cases this
      rw [h4 _ q]; exact S.tabz
    · by_cases q : a = f ∨ (a = c' ∧ s.heap.get? c' = none)
      · exact .inr (hF a q)
      · rw [h4 a q] at ha; exact .inl ha
  rcases hps with rfl | ⟨cd, rfl, hcd⟩
  · refine kla_makeFunction (mg := mg) (lo.clo env cc hcc) hglob hg' hcode (lo.head.keeps hbase) hP trivial rfl hgP hb' fun c' ctv h' tk hx hge hlt hrec htb => ?_
    refine fin (f := h'.objs.size) (c' := c') (ctv := ctv) (fun a o ha e => Heap.get?_push_of_some _ (hx a o ha e)) (get_ge (Nat.le_trans hge (Nat.le_of_lt hlt))) (Heap.get?_push_size _ rfl) (hrec.push _) (.inl (get_ge hge)) (Heap.get?_push_of_some _ (show h'.get? c.P = some (tabObj #[rawInt c.lpos.line, rawInt c.lpos.col, .ref c']) from htb))
  · have hca : codeAmong c.lpos [rawInt c.lpos.line, rawInt c.lpos.col, .ref cd] = some (.ref cd) := by
      show codeAmong c.lpos (.int c.lpos.line 0 :: .int c.lpos.col 0 :: .ref cd :: []) = _
      unfold codeAmong
      rw [if_pos (by simp)]
    refine kla_makeFunctionHit (mg := mg) (lo.clo env cc hcc) hglob hg' hcode (lo.head.keeps hbase) hP (by trivial) hca hb' fun ctv h' tk hk hsz => ?_
    exact fin (f := h'.objs.size) (c' := cd) (ctv := ctv) (fun a o ha e => Heap.get?_push_of_some _ (hk a o e)) (get_ge hsz) (Heap.get?_push_size _ rfl) ((hcd.keeps S.zh).keeps fun b o e => Heap.get?_push_of_some _ (hk b o e)) (.inr hcd) (Heap.get?_push_of_some _ (hk _ _ hP))
end
end Mine
end
section
open PySem PySem.Calls PySem.W PyProof.Rows
namespace Mine
section
variable {c : Cx} {n : Nat} {sc : Scope} {nm : List Str} {wr : List Str}
/-- told = retargeted(terminator, lambda …) -/
noncomputable def xlam (j : Nat) (F : List D → Src → Option (D × Src)) (f : EX) : EX := fun ρ σ => match f ρ σ with
  | some (d1, σ) => match ρ[j]? with
    | some (.frz db) => match F [d1, .lam db] σ with
      | some (d, σ) => if noLam d = true then some (d, σ) else none
      | none => none
    | _ => none
  | none => none
theorem eval_callLam (ok : c.Ok) (lo : LamOk c) {m : Nat} {x : Str} {a : Addr} {e1 : Expr} {p pos : Pos} {F : List D → Src → Option (D × Src)} {f : EX} {j : Nat} (gf : GFn c x a) (hF : FS c m a F) (hmn : m + 1 ≤ n) (h1 : SX c n sc nm e1 f) (hj : nm[j]? = some "body") (hjc : sc.names.lookup ("body" : Str) = some .cell)
    (hx : sc.names.lookup x = some .globalImplicit) (he1 : ∀ env, starEach [e1, .Lambda c.lparams c.lbody c.lscope c.lpos] env = (false, eval e1 env) :: starEach [.Lambda c.lparams c.lbody c.lscope c.lpos] env) (he2 : ∀ env, starEach [.Lambda c.lparams c.lbody c.lscope c.lpos] env = (false, eval (.Lambda c.lparams c.lbody c.lscope c.lpos) env) :: starEach [] env)
    (hd : (x == ("__debug__" : Str)) = false) {A : Around} {env : Env} {z : Heap} {s : Shared} {ρ : Vars} {ad : Nat → Addr} {σ σ' : Src} {d : D} (R : Room A n) (hsc : env.scope = sc) (hq : env.qual ++ "<lambda>" = c.lqual) (hcode : env.code = .ref c.cT) (V : VSt c z env s nm ρ ad σ) (hf : xlam j F f ρ σ = some (d, σ')) :
    wpAny (model c.prog c.w) A (eval (.Call (.Name x p) [e1, .Lambda c.lparams c.lbody c.lscope c.lpos] [] pos) env) (fun v s' => ∃ z', EPost c z s z' s' σ' ∧ Rep c z' v d) no2 s := by
  unfold xlam at hf
  first | (refine omD hf ?_; clear hf; intro d1 σ₁ hd1 hf; try cases hf) | (refine omL hf ?_; clear hf; intro d1 σ₁ hd1 hf; try cases hf) | (refine omB hf ?_; clear hf; intro d1 σ₁ hd1 hf; try cases hf) | (refine omC hf ?_; clear hf; intro d1 σ₁ hd1 hf; try cases hf) | (refine omK hf ?_; clear hf; intro d1 σ₁ hd1 hf; try cases hf) | (refine omI hf ?_; clear hf; intro d1 σ₁ hd1 hf; try cases hf) | (refine omT hf ?_; clear hf; intro d1 σ₁ hd1 hf; try cases hf) | (refine omS hf ?_; clear hf; intro d1 σ₁ hd1 hf; try cases hf) | ((split at hf <;> try cases hf); rename_i d1 σ₁ hd1)
  split at hf <;> try cases hf
  refine gen ?_; intro GG kGG
  rename_i db hρ
  first | (refine omD hf ?_; clear hf; intro dd σ₂ hFd hf; try cases hf) | (refine omL hf ?_; clear hf; intro dd σ₂ hFd hf; try cases hf) | (refine omB hf ?_; clear hf; intro dd σ₂ hFd hf; try cases hf) | (refine omC hf ?_; clear hf; intro dd σ₂ hFd hf; try cases hf) | (refine omK hf ?_; clear hf; intro dd σ₂ hFd hf; try cases hf) | (refine omI hf ?_; clear hf; intro dd σ₂ hFd hf; try cases hf) | (refine omT hf ?_; clear hf; intro dd σ₂ hFd hf; try cases hf) | (refine omS hf ?_; clear hf; intro dd σ₂ hFd hf; try cases hf) | ((split at hf <;> try cases hf); rename_i dd σ₂ hFd)
  first | (refine oIf hf ?_; clear hf; intro hnl hf; cases hf) | ((split at hf <;> cases hf); rename_i hnl)
  obtain ⟨g1, o, fd, g2, g3⟩ := id gf
  refine kGG ?_; clear kGG
  refine wpAny_Call_NameR (name_fn ok gf V (by rw [hsc]; exact hx) hd ?_)
  have hb1 : backTo pos (starEach [e1, .Lambda c.lparams c.lbody c.lscope c.lpos] env) = (false, eval e1 env) :: backTo pos (starEach [.Lambda c.lparams c.lbody c.lscope c.lpos] env) := by rw [he1]; rfl
  rw [hb1]
  refine callWith_function (o := o) (fd := fd) (evalArgs_plain ?_)
  rw [← hb1]
  refine wpAny_items_cons (monoX (h1 R hsc V hd1) fun v1 s1 z1 p1 r1 => ?_) (he1 env)
  have V1 := V.post p1
  -- the cell of body
  refine gen ?_; intro GG kGG
  obtain ⟨vb, hvar, rb⟩ := V1.vars j _ _ hj hρ
  obtain ⟨cc, hcc, oc, hoc, hdc⟩ : ∃ cc, env.cells.lookup ("body" : Str) = some cc ∧ ∃ oc, s1.heap.get? cc = some oc ∧ oc.data = .cell (some vb) := by
    rcases hvar with ⟨q, _⟩ | ⟨_, cc, q2, oc, q3, q4⟩
    · rw [Env.kindOf, hsc, hjc] at q; cases q
    · exact ⟨cc, q2, oc, q3, q4⟩
  have hFc : Fine c cc := V1.fC _ _ hcc
  have main : ∀ {zz : Heap}, St0 c zz s1 σ₁ → Sub z1 zz → zz.get? cc = some oc → wpAny (model c.prog c.w) A (eval (.Lambda c.lparams c.lbody c.lscope c.lpos) env) (fun v s2 => wpAny (model c.prog c.w) A (spliced (backTo pos (starEach [] env))) (fun vs s3 =>
      (s3.heap.get? a = some o ∧ o.data = .func fd) ∧ wpAny (model c.prog c.w) A (call (.ref a) ([] ++ (v1 :: v :: vs)) []) (fun v s' => ∃ z', EPost c zz s1 z' s' σ' ∧ Rep c z' v d) no2 s3) no2 s2) no2 s1 := by
    intro zz S hs hz
    refine monoX (make_lam lo S hq hcode V1.glob hcc hz hdc (rb.mono hs)) fun v s2 z2 p2 r2 => ?_
    refine wpAny_items_nil ⟨⟨p2.st.kin ok _ _ g2, g3⟩, ?_⟩
    refine wpAny_call (codeAny_mono (hF (R.le hmn) p2.st (.cons (r1.mono (hs.trans p2.zz)) (.cons r2 .nil)) hFd) fun rr s' hr => ?_)
    obtain ⟨v', rfl, z', p', rv⟩ := hr
    exact ⟨z', p2.trans p', rv⟩
  refine kGG ?_; clear kGG
  refine wpAny_items_cons ?_ (he2 env)
  cases e0 : z1.get? cc with
  | some o' =>
    have e1 := V1.st.zh _ _ e0
    rw [hoc] at e1; cases e1
    refine wpAny_mono (main V1.st (.refl _) e0) (fun v s2 q => wpAny_mono q (fun vs s3 ⟨q1, q2⟩ => ⟨q1, wpAny_mono q2 (fun v s' ⟨z', p', rv⟩ => ⟨z', p1.trans p', rv⟩) fun _ _ x => x⟩) fun _ _ x => x) fun _ _ x => x
  | none =>
    refine gen ?_; intro GG kGG
    obtain ⟨zz, hs, hz, hzo, S'⟩ := V1.st.freeze hFc
    rw [hoc] at hz
    refine kGG ?_; clear kGG
    refine wpAny_mono (main S' hs hz) (fun v s2 q => wpAny_mono q (fun vs s3 ⟨q1, q2⟩ => ⟨q1, wpAny_mono q2 (fun v s' hmm => ?_) fun _ _ x => x⟩) fun _ _ x => x) fun _ _ x => x
    refine gen ?_; intro GG kGG
    obtain ⟨z', p', rv⟩ := hmm
    obtain ⟨z'', p'', hr⟩ := EPost.drop V1.st e0 hz hdc hzo p'
    refine kGG ?_; clear kGG
    exact ⟨z'', p1.trans p'', hr _ _ hnl rv⟩
theorem SSAt.lam (hnd : nm.Nodup) (ok : c.Ok) (lo : LamOk c) {m : Nat} {x y : Str} {a : Addr} {e1 : Expr} {p p' pos spos : Pos} {F : List D → Src → Option (D × Src)} {f : EX} {i j : Nat} (gf : GFn c x a) (hF : FS c m a F) (hmn : m + 1 ≤ n) (h1 : SX c n sc nm e1 f) (hj : nm[j]? = some "body") (hjc : sc.names.lookup ("body" : Str) = some .cell)
    (hi : nm[i]? = some y) (hy : sc.names.lookup y = some .local ∨ y ∈ wr) {A : Around} {env : Env} (R : Room A n) (hsc : env.scope = sc) (hq : env.qual ++ "<lambda>" = c.lqual) (hcode : env.code = .ref c.cT)
    (hx : sc.names.lookup x = some .globalImplicit := by rfl) (he1 : ∀ env, starEach [e1, .Lambda c.lparams c.lbody c.lscope c.lpos] env = (false, eval e1 env) :: starEach [.Lambda c.lparams c.lbody c.lscope c.lpos] env := by intro _; rfl) (he2 : ∀ env, starEach [.Lambda c.lparams c.lbody c.lscope c.lpos] env = (false, eval (.Lambda c.lparams c.lbody c.lscope c.lpos) env) :: starEach [] env := by intro _; rfl)
    (hd : (x == ("__debug__" : Str)) = false := by decide +kernel)
    (hsw : swapsWith (.Call (.Name x p) [e1, .Lambda c.lparams c.lbody c.lscope c.lpos] [] pos) (some (.Name y p')) spos.line env = pure false := by rfl) :
    SSAt c A env nm wr (.Assign [.Name y p'] (.Call (.Name x p) [e1, .Lambda c.lparams c.lbody c.lscope c.lpos] [] pos) spos) (sset i (cfrz (xlam j F f))) := by
  intro g z s ρ ad σ fl ρ' σ' T hf
  refine qgen ?_; intro QQ kQ
  refine gen ?_; intro GG kGG
  unfold sset cfrz at hf
  first | (refine oD hf ?_; clear hf; intro k hk hf; try cases hf) | ((split at hf <;> cases hf); rename_i k hk)
  first | (refine oD hk ?_; clear hk; intro d hd0 hk; try cases hk) | ((split at hk <;> cases hk); rename_i d hd0)
  refine kGG ?_; clear kGG
  refine wpAny_Assign_Name (monoX (eval_callLam ok lo gf hF hmn h1 hj hjc hx he1 he2 hd R hsc hq hcode T.v hd0) fun v s₁ z₁ p r => ?_) hsw
  refine (T.post p).store hnd hi (by rw [Env.kindOf, hsc]; exact hy) (NewCell.frozen (a := 0) r) fun s' T' => ?_
  exact (kQ _ _ ⟨z₁, _, T.spost p, T', .next⟩)
/-! ### turned(block) -/
noncomputable def xturn (i : Nat) (fb : EX) (f : EX) : EX := fun ρ σ => match ρ[i]? with
  | some (.frz (.lam db)) => match f ρ σ with
    | some (d, σ) => fb [.frz db, .frz d] σ
    | none => none
  | _ => none
theorem SX.turn (ok : c.Ok) (lo : LamOk c) {m : Nat} {x : Str} {i : Nat} {e : Expr} {p pos : Pos} {fb f : EX} (hi : nm[i]? = some x) (hb : SX c m c.lscope ["body", "block"] c.lbody fb) (hmn : m + 1 ≤ n) (h : SX c n sc nm e f)
    (he : ∀ env, starEach [e] env = [(false, eval e env)] := by intro; rfl) (hd : (x == ("__debug__" : Str)) = false := by decide +kernel) (hn : (x == ("__classdict__" : Str)) = false := by decide +kernel) :
    SX c n sc nm (.Call (.Name x p) [e] [] pos) (xturn i fb f) := by
  intro A env z s ρ ad σ d σ' R hsc V hf
  refine qgen ?_; intro QQ kQ
  unfold xturn at hf
  split at hf <;> try cases hf
  refine gen ?_; intro GG kGG
  rename_i db hρ
  first | (refine omD hf ?_; clear hf; intro de σ₁ hde hf; try cases hf) | (refine omL hf ?_; clear hf; intro de σ₁ hde hf; try cases hf) | (refine omB hf ?_; clear hf; intro de σ₁ hde hf; try cases hf) | (refine omC hf ?_; clear hf; intro de σ₁ hde hf; try cases hf) | (refine omK hf ?_; clear hf; intro de σ₁ hde hf; try cases hf) | (refine omI hf ?_; clear hf; intro de σ₁ hde hf; try cases hf) | (refine omT hf ?_; clear hf; intro de σ₁ hde hf; try cases hf) | (refine omS hf ?_; clear hf; intro de σ₁ hde hf; try cases hf) | ((split at hf <;> try cases hf); rename_i de σ₁ hde)
  obtain ⟨v, hv, rv⟩ := V.vars i x _ hi hρ
  obtain ⟨fa, vb, rfl, hL, rb⟩ := rv.lam_inv
  obtain ⟨pm, cd, ctv, cc, oc, q1, q2, q3, q4⟩ := hL
  refine kGG ?_; clear kGG
  refine Call_name1 (he env) (wpAny_Name (load_var V.kind hv hn ?_) hd)
  refine callWith_function (o := kla_obj "<lambda>" c.lqual c.lparams c.lbody c.lscope [("body", cc)] pm cd ctv) (fd := kla_fn "<lambda>" c.lqual c.lparams c.lbody c.lscope [("body", cc)] pm (.ref cd) ctv) (evalArgs_plain (Calls.spliced_cons (monoX (h R hsc V hde) fun ve s₁ z₁ p r => Calls.spliced_nil ?_)))
  have f1 := p.st.zh _ _ (p.zz _ _ q1)
  refine ⟨⟨f1, rfl⟩, wpAny_call ?_⟩
  refine gen ?_; intro GG kGG
  obtain ⟨p0, loose, mg, mb, T0⟩ := ok.T
  have hlim := T0.nolimit.keeps (p.st.base.trans p.st.zh)
  refine kGG ?_; clear kGG
  refine kla_callFunE R.depth f1 rfl lo.co lo.gen rfl ((q4.keeps p.zz).keeps p.st.zh) ?_
  show wpAny _ _ (bindArgs (kla_fn "<lambda>" c.lqual c.lparams c.lbody c.lscope [("body", cc)] pm (.ref cd) ctv) ⟨[ve], []⟩) _ _ _
  rw [lo.bind]
  refine wpAny_pure (wpAny_newFunctionEnv lo.nocell (fun y hy => ?_) (fun h₁ hns hsb => ⟨hlim.fresh _ hsb, ?_⟩) lo.kind)
  · rcases List.mem_cons.mp hy with rfl | hy
    · exact lo.block
    · cases hy
  · have hk₁ : ∀ b o, s₁.heap.get? b = some o → h₁.get? b = some o := fun b o e => hsb.extBut b o (Nat.ne_of_lt (Heap.lt_size e)) (Heap.get?_push_of_some _ e)
    have p2 := EPost.grown (tk := s₁.toks + [(("block" : Str), ve)].length) p.st hk₁
    refine kla_codeExpr ?_
    have VL : VSt c z₁ (newEnv c.lscope s₁.heap.objs.size mainGlobals [("body", cc)] (c.lqual ++ ".<locals>.") (some fa) (.ref cd) none builtinsNs) { s₁ with heap := h₁, toks := s₁.toks + [(("block" : Str), ve)].length } ["body", "block"] [.frz db, .frz de] (fun _ => 0) σ₁ := by
      have hocz := p.zz _ _ q2
      refine ⟨p2.st, lo.kind, rfl, rfl, fine_new p.st (get_size _), fun y b hb' => ?_, fun k y kk hy hk => ?_⟩
      · have : (([("body", cc)] : List (Str × Addr)).lookup y) = some b := hb'
        rw [List.lookup_cons] at this
        split at this
        · cases this; exact p.st.fine (by rw [hocz]; exact fun q => nomatch q)
        · cases this
      · match k, hy, hk with
        | 0, hy, hk =>
          cases hy; cases hk
          exact ⟨vb, .inr ⟨.inr lo.body, cc, rfl, oc, hk₁ _ _ (p.st.zh _ _ hocz), q3⟩, rb.mono p.zz⟩
        | 1, hy, hk =>
          cases hy; cases hk
          exact ⟨ve, .inl ⟨lo.block, _, hns, rfl⟩, r⟩
        | k + 2, hy, hk => simp at hy
    refine wpAny_mono (hb (R.le hmn).deeper rfl VL hf) (fun u s' hmm => ?_) fun _ _ q => q.elim
    obtain ⟨z', p', ru⟩ := hmm
    exact (kQ _ _ ⟨z', (p.trans p2).trans p', ru⟩)
/-! ### a function whose frame is told -/
end
end Mine
end
section
open PySem PySem.Calls PySem.W PyProof.Rows
namespace Mine
section
variable {c : Cx} {n : Nat} {sc : Scope} {nm : List Str} {wr : List Str}
/-- statements that end in a fresh list or dict -/
noncomputable def SSn (c : Cx) (n : Nat) (sc : Scope) (nm wr : List Str) (st : List Stmt) (f : EX) : Prop :=
  ∀ ⦃A env g z s ρ ad σ d σ'⦄, Room A n → env.scope = sc → SSt c g wr z env s nm ρ ad σ → f ρ σ = some (d, σ') →
    wpAny (model c.prog c.w) A (execs st env) (fun w s' => ∃ z' ad' ρ' a o, SPost c g z z' ∧ SSt c g wr z' env s' nm ρ' ad' σ' ∧ w = .ret (.ref a) ∧ g a = none ∧ z'.get? a = none ∧ Fine c a ∧ (a == sysModules) = false ∧ s'.heap.get? a = some o ∧ ORep c z' o d) no2 s
noncomputable def nseq (f : SF) (h : EX) : EX := fun ρ σ => match f ρ σ with
  | some (.next, ρ, σ) => h ρ σ
  | _ => none
theorem SSn.last (ok : c.Ok) {e : Expr} {pos : Pos} {f : EX} (h : SFr c n sc nm e f) : SSn c n sc nm wr [.Return (some e) pos] f := by
  intro A env g z s ρ ad σ d σ' R hs T hf
  refine qgen ?_; intro QQ kQ
  refine wpAny_execs_cons (wpAny_Return_some (monoX (h R hs T.v hf) fun v s' z' p hmm => ?_))
  refine gen ?_; intro GG kGG
  obtain ⟨a, o, e1, e2, e3, e4, e5⟩ := hmm
  subst e1
  refine kGG ?_; clear kGG
  refine (kQ _ _ ⟨z', ad, ρ, a, o, T.spost p, T.post p, rfl, ?_, e3, fine_new T.v.st e2, new_sys ok T.v.st e2, e4, e5⟩)
  cases e0 : g a with
  | none => rfl
  | some o' => rw [T.keep a o' e0] at e2; cases e2
theorem SSn.cons {st : Stmt} {rest : List Stmt} {f : SF} {h : EX} (h1 : SS c n sc nm wr st f) (h2 : SSn c n sc nm wr rest h) : SSn c n sc nm wr (st :: rest) (nseq f h) := by
  intro A env g z s ρ ad σ d σ' R hs T hf
  refine qgen ?_; intro QQ kQ
  unfold nseq at hf
  cases hf1 : f ρ σ with
  | none => rw [hf1] at hf; cases hf
  | some y =>
    obtain ⟨fl₁, ρ₁, σ₁⟩ := y
    rw [hf1] at hf
    cases fl₁ with
    | next =>
      refine wpAny_execs_cons (wpAny_mono (h1 R hs T hf1) (fun w s₁ hmm => ?_) fun _ _ x => x)
      refine gen ?_; intro GG kGG
      obtain ⟨z₁, ad₁, p, T₁, r⟩ := hmm
      cases r
      refine kGG ?_; clear kGG
      refine wpAny_mono (h2 R hs T₁ hf) (fun w s₂ hmm => ?_) fun _ _ x => x
      refine gen ?_; intro GG kGG
      obtain ⟨z₂, ad₂, ρ₂, a, o, p₂, T₂, q⟩ := hmm
      refine kGG ?_; clear kGG
      exact (kQ _ _ ⟨z₂, ad₂, ρ₂, a, o, p.trans p₂, T₂, q⟩)
    | _ => cases hf
noncomputable def FSF (c : Cx) (n : Nat) (a : Addr) (F : List D → Src → Option (D × Src)) : Prop :=
  ∀ ⦃A z s σ vs ds d σ'⦄, Room A (n + 1) → St0 c z s σ → RepL c z vs ds → F ds σ = some (d, σ') →
    codeAny (model c.prog c.w) A (.call (.ref a) ⟨vs, []⟩) (fun r s' => ∃ b, r = .ok (.ret (.ref b)) ∧ ∃ z', EPost c z s z' s' σ' ∧ CRes c s.heap z' s'.heap (.ref b) (.own d) b) s
noncomputable def fdefn (k m : Nat) (f : EX) : List D → Src → Option (D × Src) := fun ds σ => if ds.length = k then f (vars0 ds m) σ else none
theorem FSF.of (ok : c.Ok) {a : Addr} {o : Obj} {fd : FuncData} {params : List Str} {body : List Stmt} {m : Nat} {f : EX} (fa : FnAt c a o fd sc body params) (sg : Sig sc params nm wr) (hm : params.length + m ≤ nm.length) (h : SSn c n sc nm wr body f) :
    FSF c n a (fdefn params.length m f) := by
  intro A z s σ vs ds d σ' R S r hf
  unfold fdefn at hf
  split at hf <;> try cases hf
  refine gen ?_; intro GG kGG
  rename_i hl
  have X := S.kin ok
  obtain ⟨p0, loose, mg, mb, T0⟩ := ok.T
  have hlim := T0.nolimit.keeps (S.base.trans S.zh)
  refine kGG ?_; clear kGG
  refine codeAny_call_cells R.depth (X _ _ fa.obj) fa.data hlim (code_in X fa.code) fa.body (fa.bind vs (by rw [r.length]; exact hl)) fa.clo (fun y hy => ?_) (fun s₁ x => ?_) (by rw [fa.sc]; exact sg.co) (by rw [fa.sc]; exact sg.gen) (by rw [fa.sc]; exact sg.kind)
  · have hyp : y.1 ∈ params := (List.of_mem_zip (a := y.1) (b := y.2) hy).1
    rcases sg.pk y.1 hyp with h1 | ⟨h1, h2⟩
    · exact .inl (by rw [fa.sc]; exact h1)
    · exact .inr ⟨by rw [fa.sc]; exact h1, by rw [fa.sc]; exact cellsFrom_mem h2⟩
  · have T := enter (m := m) ok fa sg hm S r hl x
    refine wpAny_mono (h R.deeper (by show fd.scope = _; exact fa.sc) T hf) (fun w s' hmm => ?_) fun _ _ q => q.elim
    refine gen ?_; intro GG kGG
    obtain ⟨z', ad', ρ', b, oo, sp, T', rf, q1, q2, q3, q4, q5, q6⟩ := hmm
    subst rf
    refine kGG ?_; clear kGG
    refine ⟨b, rfl, z', left_post S sp T', rfl, ?_, q2, q3, q4, oo, q5, q6⟩
    unfold fineOf at q1
    rw [if_pos q3] at q1
    exact q1
noncomputable def cnew (F : List D → Src → Option (D × Src)) (g : LX) : CXf := fun ρ σ => match g ρ σ with
  | some (ds, σ) => match F ds σ with
    | some (d, σ) => some (.own d, σ)
    | none => none
  | none => none
theorem SC.callF (ok : c.Ok) {m : Nat} {x : Str} {a : Addr} {e : Expr} {es : List Expr} {p pos : Pos} {F : List D → Src → Option (D × Src)} {g : LX} (gf : GFn c x a) (hF : FSF c m a F) (hmn : m + 1 ≤ n) (h : SL c n sc nm (e :: es) g)
    (hx : sc.names.lookup x = some .globalImplicit := by rfl) (he : ∀ env, starEach (e :: es) env = (false, eval e env) :: starEach es env := by intro; rfl) (hd : (x == ("__debug__" : Str)) = false := by decide +kernel) :
    SC c n sc nm (.Call (.Name x p) (e :: es) [] pos) (cnew F g) := by
  intro A env z s ρ ad σ k σ' R hsc V hf
  refine qgen ?_; intro QQ kQ
  refine gen ?_; intro GG kGG
  unfold cnew at hf
  first | (refine omD hf ?_; clear hf; intro ds σ₁ hds hf; try cases hf) | (refine omL hf ?_; clear hf; intro ds σ₁ hds hf; try cases hf) | (refine omB hf ?_; clear hf; intro ds σ₁ hds hf; try cases hf) | (refine omC hf ?_; clear hf; intro ds σ₁ hds hf; try cases hf) | (refine omK hf ?_; clear hf; intro ds σ₁ hds hf; try cases hf) | (refine omI hf ?_; clear hf; intro ds σ₁ hds hf; try cases hf) | (refine omT hf ?_; clear hf; intro ds σ₁ hds hf; try cases hf) | (refine omS hf ?_; clear hf; intro ds σ₁ hds hf; try cases hf) | ((split at hf <;> try cases hf); rename_i ds σ₁ hds)
  first | (refine oD hf ?_; clear hf; intro bs hF' hf; try cases hf) | ((split at hf <;> cases hf); rename_i bs hF')
  obtain ⟨g1, o, fd, g2, g3⟩ := id gf
  refine kGG ?_; clear kGG
  refine wpAny_Call_NameR (name_fn ok gf V (by rw [hsc]; exact hx) hd ?_)
  have hb : backTo pos (starEach (e :: es) env) = (false, eval e env) :: backTo pos (starEach es env) := by rw [he]; rfl
  have hh := h (pos := pos) R hsc V hds
  rw [hb] at hh ⊢
  refine callWith_function (o := o) (fd := fd) (evalArgs_plain (monoX hh fun vs s₁ z₁ p r => ?_))
  refine ⟨⟨p.st.kin ok _ _ g2, g3⟩, wpAny_call (codeAny_mono (hF (R.le hmn) p.st r hF') fun rr s' hr => ?_)⟩
  refine gen ?_; intro GG kGG
  obtain ⟨b, rfl, z', p', _, c1, c2, c3, c4, c5⟩ := hr
  refine kGG ?_; clear kGG
  exact (kQ _ _ ⟨z', p.trans p', b, rfl, old_none p.st p c1, c2, c3, c4, c5⟩)
end
/-! ### the source is told -/
noncomputable def Cx.src (c : Cx) (a : Addr) : Cx := { c with q := some a }
theorem BodyDict.src' {c : Cx} {a : Addr} {o : Obj} {vs : List Value} (h : BodyDict c o vs) : BodyDict (c.src a) o vs := by
  refine gen ?_; intro GG kGG
  obtain ⟨v1, v2, v3, v4, v5, t1, t2, t3, t4, t5, n, ev, eo⟩ := h
  refine kGG ?_; clear kGG
  exact ⟨v1, v2, v3, v4, v5, t1, t2, t3, t4, t5, n, ev, eo⟩
theorem Rep.src' {c : Cx} (h0 : c.q = Option.none) {a : Addr} {z : Heap} {v : Value} {d : D} (h : Rep c z v d) : Rep (c.src a) z v d :=
  Rep.rec (c := c) (z := z) (motive_1 := fun v d _ => Rep (c.src a) z v d) (motive_2 := fun vs ds _ => RepL (c.src a) z vs ds) .none .bool .int .str (fun h _ r => .tup h r) (fun h _ r => .list h r)
    (fun h n e e' _ r => .dict (c := c.src a) h n e e' r) (fun h1 h2 h3 _ r => .body (c := c.src a) h1 h2 h3.src' r) (fun h => by rw [h0] at h; cases h) (fun h _ r => .lam (c := c.src a) h r) .nil (fun _ _ h r => .cons h r) h
theorem RepL.src' {c : Cx} (h0 : c.q = Option.none) {a : Addr} {z : Heap} {vs : List Value} {ds : List D} (h : RepL c z vs ds) : RepL (c.src a) z vs ds := by
  induction ds generalizing vs with
  | nil => obtain rfl := h.nil_inv; exact .nil
  | cons d ds ih => obtain ⟨v, ws, rfl, h1, h2⟩ := h.cons_inv; exact .cons (h1.src' h0) (ih h2)
theorem ORep.src' {c : Cx} (h0 : c.q = none) {a : Addr} {z : Heap} {o : Obj} {d : D} (h : ORep c z o d) : ORep (c.src a) z o d := by
  cases d <;> try exact h.elim
  · obtain ⟨vs, n, e, r⟩ := h; exact ⟨vs, n, e, r.src' h0⟩
  · obtain ⟨kvs, e, e2, r⟩ := h; exact ⟨kvs, e, e2, r.src' h0⟩
theorem SSt.toSrc {c : Cx} (h0 : c.q = none) {g : Addr → Option Obj} {wr nm : List Str} {z : Heap} {env : Env} {s : Shared} {ρ : Vars} {ad : Nat → Addr} {σ : Src} (T : SSt c g wr z env s nm ρ ad σ) {i : Nat} {a b : Int} (hk : ρ[i]? = some (.own (.list [.int a, .int b])))
    (hob : ∀ (j : Nat) (ds : List D), ρ[j]? ≠ some (.ob ds)) : SSt (c.src (ad i)) g wr z env s nm (ρ.set i (.frz .src)) ad (a, b) := by
  refine gen ?_; intro GG kGG
  have hi : i < nm.length := Nat.lt_of_lt_of_le (List.getElem?_eq_some_iff.mp hk).1 T.len
  have hni := List.getElem?_eq_getElem hi
  obtain ⟨q1, q2, q3, q4, oi, q5, vs, k, rfl, q6⟩ := T.v.vars i _ _ hni hk
  obtain ⟨q7, q8⟩ := T.own i _ hk rfl
  have F' : ∀ {x : Addr}, Fine c x → x ≠ ad i → Fine (c.src (ad i)) x := fun {x} h hx => ⟨fun q => hx (Option.some.inj q).symm, h.2⟩
  have hset : ∀ {j : Nat} {k' : Cell}, (ρ.set i (.frz .src))[j]? = some k' → j ≠ i → ρ[j]? = some k' := fun {j k'} e hj => by
    rw [List.getElem?_set_ne (fun q => hj q.symm)] at e; exact e
  have hseti : ∀ {k' : Cell}, (ρ.set i (.frz .src))[i]? = some k' → k' = .frz .src := fun {k'} e => by
    rw [List.getElem?_set] at e
    simp only [if_true] at e
    split at e <;> cases e
    rfl
  have hnc : ∀ {x : Addr} {w : Option Value}, s.heap.IsCell x w → x ≠ ad i := fun {x w} ⟨o, e1, e2⟩ q => by
    subst q
    rw [q5] at e1; cases e1; cases e2
  have hown : ∀ {j : Nat} {k' : Cell}, (ρ.set i (.frz .src))[j]? = some k' → isOwn k' = true → j ≠ i ∧ ρ[j]? = some k' := fun {j k'} e ho => by
    have hj : j ≠ i := fun hj => by subst hj; rw [hseti e] at ho; cases ho
    exact ⟨hj, hset e hj⟩
  refine kGG ?_; clear kGG
  refine ⟨⟨⟨T.v.st.zh, T.v.st.base, T.v.st.gens, T.v.st.os, fun x hx => ?_, T.v.st.tabz, T.v.st.tab⟩, T.v.kind, T.v.glob, T.v.blt, F' T.v.fL (fun q => q8 q.symm), fun x y h => ?_, fun j y k' hy e => ?_⟩, by rw [List.length_set]; exact T.len, T.keep, fun x o e => F' (T.gF x o e) (fun q => by rw [q, q7] at e; cases e), T.gL, T.zL, T.ns, T.cel, T.cx, T.cd, fun j k' e ho => T.own j k' (hown e ho).2 ho, fun j j' k1 k2 e1 e2 o1 o2 e => T.od j j' k1 k2 (hown e1 o1).2 (hown e2 o2).2 o1 o2 e⟩
  · have hx' : ad i = x := Option.some.inj hx
    subst hx'
    refine ⟨q2, ?_⟩
    refine gen ?_; intro GG kGG
    obtain ⟨v1, ws1, rfl, r1, q6⟩ := q6.cons_inv
    obtain ⟨v2, ws2, rfl, r2, q6⟩ := q6.cons_inv
    obtain rfl := q6.nil_inv
    obtain ⟨t1, rfl⟩ := r1.int_inv
    obtain ⟨t2, rfl⟩ := r2.int_inv
    refine kGG ?_; clear kGG
    exact ⟨_, _, _, q5, rfl, k, rfl⟩
  · obtain ⟨w, hw⟩ := T.cx x y h
    exact F' (T.v.fC x y h) (hnc hw)
  · by_cases hj : j = i
    · subst hj
      obtain rfl := hseti e
      obtain rfl := Option.some.inj (hy.symm.trans hni)
      exact ⟨_, q1, .src rfl⟩
    · have e' := hset e hj
      have H := T.v.vars j y k' hy e'
      cases k' with
      | un => trivial
      | frz d => obtain ⟨v, h1, h2⟩ := H; exact ⟨v, h1, h2.src' h0⟩
      | own d =>
        refine gen ?_; intro GG kGG
        obtain ⟨h1, h2, h3, h4, o, h5, h6⟩ := H
        refine kGG ?_; clear kGG
        exact ⟨h1, h2, F' h3 (fun q => hj (T.od j i _ _ e' hk rfl rfl q)), h4, o, h5, h6.src' h0⟩
      | ob ds => exact absurd e' (hob j ds)
end Mine
end
section
open PySem PySem.Calls PySem.W PyProof.Rows
namespace Mine
noncomputable def isK (a b : NameKind) : Bool := match a, b with
  | .local, .local => true
  | .cell, .cell => true
  | .free, .free => true
  | .globalImplicit, .globalImplicit => true
  | _, _ => false
theorem isK_eq {a b : NameKind} (h : isK a b = true) : a = b := by
  cases a <;> cases b <;> first | rfl | exact nomatch h
theorem isK_cell {a : NameKind} (h : isK a .cell = false) : a ≠ .cell := fun e => by subst e; cases h
noncomputable def lk (names : List (Str × NameKind)) (x : Str) (k : NameKind) : Bool := match names.lookup x with
  | some k' => isK k' k
  | none => false
theorem lk_eq {names : List (Str × NameKind)} {x : Str} {k : NameKind} (h : lk names x k = true) : names.lookup x = some k := by
  unfold lk at h; split at h
  · rename_i e; rw [e, isK_eq h]
  · cases h
noncomputable def memK (names : List (Str × NameKind)) (x : Str) (k : NameKind) : Bool := names.any fun y => y.1 == x && isK y.2 k
theorem memK_eq {names : List (Str × NameKind)} {x : Str} {k : NameKind} (h : memK names x k = true) : (x, k) ∈ names := by
  obtain ⟨y, h1, h2⟩ := List.any_eq_true.mp h
  obtain ⟨h3, h4⟩ := Bool.and_eq_true_iff.mp h2
  have e1 := eq_of_beq h3
  have e2 := isK_eq h4
  obtain ⟨a, b⟩ := y
  cases e1; cases e2
  exact h1
noncomputable def isFunK : ScopeKind → Bool
  | .function => true
  | _ => false
theorem isFunK_eq {a : ScopeKind} (h : isFunK a = true) : a = .function := by
  cases a <;> first | rfl | exact nomatch h
noncomputable def compOkB (sc scope : Scope) (nm : List Str) (cap : List Nat) (xs : List Str) : Bool :=
  isFunK scope.kind && scope.names.all (fun y => !isK y.2 .cell) && scope.names.all (fun y => !isK y.2 .local || lk scope.names y.1 .local) && xs.all (fun x => lk (relabelS scope sc).names x .local) &&
    scope.names.all (fun y => !isK y.2 .free || cap.any fun i => nm[i]? == some y.1) &&
    cap.all (fun i => match nm[i]? with | some x => lk sc.names x .cell && memK scope.names x .free && lk (relabelS scope sc).names x .cell | none => false)
theorem compOk_of {sc scope : Scope} {nm : List Str} {cap : List Nat} {xs nm' : List Str} (h : compOkB sc scope nm cap xs = true) (hn : nm' = cap.map (fun i => nm.getD i "") ++ xs) : CompOk sc scope nm cap xs nm' := by
  unfold compOkB at h
  simp only [Bool.and_eq_true] at h
  obtain ⟨⟨⟨⟨⟨h1, h2⟩, h3⟩, h4⟩, h5⟩, h6⟩ := h
  refine ⟨isFunK_eq h1, fun y hy => ?_, fun y hy e => ?_, fun x hx => lk_eq (List.all_eq_true.mp h4 x hx), fun y hy => ?_, fun i hi => ?_, hn⟩
  · have := List.all_eq_true.mp h2 y hy
    exact isK_cell (by simpa using this)
  · have := List.all_eq_true.mp h3 y hy
    rw [e] at this
    exact lk_eq (show lk scope.names y.1 .local = true from this)
  · have := List.all_eq_true.mp h5 _ hy
    replace this : (cap.any fun i => nm[i]? == some _) = true := this
    obtain ⟨i, h7, h8⟩ := List.any_eq_true.mp this
    exact ⟨i, h7, eq_of_beq h8⟩
  · have := List.all_eq_true.mp h6 i hi
    split at this
    · rename_i x hx
      simp only [Bool.and_eq_true] at this
      exact ⟨x, hx, lk_eq this.1.1, memK_eq this.1.2, lk_eq this.2⟩
    · cases this
noncomputable def nodupB : List Str → Bool
  | [] => true
  | x :: xs => !xs.contains x && nodupB xs
theorem nodup_of : ∀ {xs : List Str}, nodupB xs = true → xs.Nodup
  | [], _ => .nil
  | x :: xs, h => by
    simp only [nodupB, Bool.and_eq_true] at h
    refine List.nodup_cons.mpr ⟨fun q => ?_, nodup_of h.2⟩
    have := h.1
    simp [q] at this
noncomputable def sigB (sc : Scope) (params nm wr : List Str) : Bool :=
  isFunK sc.kind && !sc.isCoroutine && !sc.isGenerator && (nm.take params.length == params) && nodupB nm && params.all (fun x => lk sc.names x .local || (lk sc.names x .cell && memK sc.names x .cell)) && wr.all (fun x => lk sc.names x .cell && memK sc.names x .cell)
theorem sig_of {sc : Scope} {params nm wr : List Str} (h : sigB sc params nm wr = true) : Sig sc params nm wr := by
  unfold sigB at h
  simp only [Bool.and_eq_true] at h
  obtain ⟨⟨⟨⟨⟨⟨h1, h2⟩, h3⟩, h4⟩, h5⟩, h6⟩, h7⟩ := h
  refine ⟨isFunK_eq h1, by simpa using h2, by simpa using h3, eq_of_beq h4, nodup_of h5, fun x hx => ?_, fun x hx => ?_⟩
  · have := List.all_eq_true.mp h6 x hx
    rcases Bool.or_eq_true_iff.mp this with q | q
    · exact .inl (lk_eq q)
    · have q := Bool.and_eq_true_iff.mp q
      exact .inr ⟨lk_eq q.1, memK_eq q.2⟩
  · have q := Bool.and_eq_true_iff.mp (List.all_eq_true.mp h7 x hx)
    exact ⟨lk_eq q.1, memK_eq q.2⟩
/-- where a name may be stored -/
theorem st_loc {sc : Scope} {wr : List Str} {x : Str} (h : lk sc.names x .local = true) : sc.names.lookup x = some .local ∨ x ∈ wr := .inl (lk_eq h)
theorem st_cell {sc : Scope} {wr : List Str} {x : Str} (h : wr.contains x = true) : sc.names.lookup x = some .local ∨ x ∈ wr := .inr (by simpa using h)
theorem names_nil {sc : Scope} {nm wr : List Str} : NamesAt sc nm wr [] [] := .nil
end Mine
end
section
open PySem PySem.Calls PySem.W PyProof.Rows
set_option linter.unusedVariables false
namespace Mine
abbrev FdAt (a : Addr) := { fd : FuncData // ∀ P : Params, ∃ c d s, (hd.heap_39 P).lookup a = some ⟨c, d, .func fd, s⟩ }
abbrev BodyOf (fd : FuncData) := { b : List Stmt // fd.body = .stmts b }
abbrev ScOf (fd : FuncData) := { s : Scope // fd.scope = s }
theorem par_of {sc : Scope} {nm wr xs : List Str} {is : List Nat} (h : ((xs.zip is).all fun e => (nm[e.2]? == some e.1) && (lk sc.names e.1 .local || wr.contains e.1)) = true) :
    ∀ e ∈ xs.zip is, nm[e.2]? = some e.1 ∧ (sc.names.lookup e.1 = some .local ∨ e.1 ∈ wr) := by
  intro e he
  have := List.all_eq_true.mp h e he
  obtain ⟨h1, h2⟩ := Bool.and_eq_true_iff.mp this
  refine ⟨eq_of_beq h1, ?_⟩
  rcases Bool.or_eq_true_iff.mp h2 with h2 | h2
  · exact .inl (lk_eq h2)
  · exact .inr (by simpa using h2)
section
variable {c : Cx} (hK : c.K = hd.heap_39 c.w.params)
include hK
theorem g_len : GBi c "len" (.builtin "len") := ⟨by rw [hK]; rfl, by decide +kernel, by decide +kernel⟩
theorem g_max : GBi c "max" (.builtin "max") := ⟨by rw [hK]; rfl, by decide +kernel, by decide +kernel⟩
theorem g_sorted : GBi c "sorted" (.builtin "sorted") := ⟨by rw [hK]; rfl, by decide +kernel, by decide +kernel⟩
theorem g_int : GBi c "int" (.type "int") := ⟨by rw [hK]; rfl, by decide +kernel, by decide +kernel⟩
theorem g_list : GBi c "list" (.type "list") := ⟨by rw [hK]; rfl, by decide +kernel, by decide +kernel⟩
theorem g_tuple : GBi c "tuple" (.type "tuple") := ⟨by rw [hK]; rfl, by decide +kernel, by decide +kernel⟩
theorem g_dict : GBi c "dict" (.type "dict") := ⟨by rw [hK]; rfl, by decide +kernel, by decide +kernel⟩
theorem g_range : GBi c "range" (.type "range") := ⟨by rw [hK]; rfl, by decide +kernel, by decide +kernel⟩
theorem g_enumerate : GBi c "enumerate" (.type "enumerate") := ⟨by rw [hK]; rfl, by decide +kernel, by decide +kernel⟩
theorem n_Body (hC : c.C = 82) : nsIn c.K mainGlobals "Body" = some (some (.ref c.C)) := by rw [hK, hC]; rfl
theorem k_Body (hC : c.C = 82) : keepIn c.K (.ref c.C) = true := by rw [hK, hC]; rfl
end
end Mine
end
section
open PySem PySem.Calls PySem.W PyProof.Rows
set_option linter.unusedVariables false
namespace Mine
-- Body.__init__
noncomputable def fd36 : FdAt 36 := ⟨_, fun _ => ⟨_, _, _, rfl⟩⟩
noncomputable def b36 : BodyOf fd36.1 := ⟨_, rfl⟩
noncomputable def sc36 : ScOf fd36.1 := ⟨⟨_, _, _, _, _⟩, rfl⟩
noncomputable def oT29 : Obj := { cls := .type "tuple", data := .seq #[.none, .none] }
theorem binds4 (s : Shared) (v0 v1 v2 v3 v4 : Value) (h : s.heap.get? 29 = some oT29) : BindsTo s fd36.1 ⟨[v0, v1, v2, v3, v4], []⟩ [("self", v0), ("name", v1), ("arg_count", v2), ("locals_told", v3), ("blocks", v4), ("spots", .none)] :=
  BindsTo.of_defaults (T := 29) rfl h rfl rfl rfl
theorem binds5 (s : Shared) (v0 v1 v2 v3 v4 v5 : Value) (h : s.heap.get? 29 = some oT29) : BindsTo s fd36.1 ⟨[v0, v1, v2, v3, v4, v5], []⟩ [("self", v0), ("name", v1), ("arg_count", v2), ("locals_told", v3), ("blocks", v4), ("spots", v5)] :=
  BindsTo.of_defaults (T := 29) rfl h rfl rfl rfl
theorem init_of {c : Cx} (hK : c.K = hd.heap_39 c.w.params) (hC : c.C = 82) : ∃ oI, InitFn c 36 oI fd36.1 29 oT29 sc36.1 b36.1 ∧ InitB c fd36.1 29 oT29 := by
  refine ⟨_, ⟨by rw [hK, hC]; rfl, by rw [hK]; rfl, by rw [hK]; rfl, rfl, rfl, b36.2, .mk, sc36.2, rfl, rfl, ⟨_, _, _, _, rfl, by rw [hK]; rfl, rfl, rfl⟩, rfl, rfl, rfl, ?_, ?_, lk_eq rfl, by rw [hK]; rfl⟩, ⟨binds4, binds5⟩⟩
  · intro x hx
    have h : (sc36.1.names.all fun x => !isK x.2 .cell) = true := rfl
    exact isK_cell (by simpa using List.all_eq_true.mp h x hx)
  · intro x hx
    have h : ((["self", "name", "arg_count", "locals_told", "blocks", "spots"] : List Str).all fun x => lk sc36.1.names x .local) = true := rfl
    exact lk_eq (List.all_eq_true.mp h x hx)
theorem cls_of {c : Cx} (hK : c.K = hd.heap_39 c.w.params) (hC : c.C = 82) : BodyCls c := by
  refine ⟨by rw [hK, hC]; rfl, by rw [hK, hC]; rfl, by rw [hK, hC]; rfl, ?_, by rw [hK, hC]; rfl⟩
  intro x hx
  rw [hK, hC]
  simp only [bodyNames, List.mem_cons, List.not_mem_nil, or_false] at hx
  rcases hx with rfl | rfl | rfl | rfl | rfl <;> rfl
end Mine
end
section
open PySem PySem.Calls PySem.W PyProof.Rows
set_option linter.unusedVariables false
namespace Mine
-- the lambda of threaded
noncomputable def fd120 : FdAt 120 := ⟨_, fun _ => ⟨_, _, _, rfl⟩⟩
noncomputable def b120 : BodyOf fd120.1 := ⟨_, rfl⟩
noncomputable def sc120 : ScOf fd120.1 := ⟨⟨_, _, _, _, _⟩, rfl⟩
structure LamAt' (p : Arguments) (b : Expr) (s : Scope) (q : Pos) : Prop where
  h : ∃ s0 t it s1 y f e1 kp ap s3 fp s4, b120.1 = [s0, .For t it [s1, .Assign y (.Call f [e1, .Lambda p b s q] [] kp) ap, s3] [] fp, s4]
noncomputable def lam120 : { q : Arguments × Expr × Scope × Pos // LamAt' q.1 q.2.1 q.2.2.1 q.2.2.2 } := ⟨(⟨_, _, _, _, _, _, _⟩, _, ⟨_, _, _, _, _⟩, _), ⟨⟨_, _, _, _, _, _, _, _, _, _, _, _, rfl⟩⟩⟩
noncomputable def mkC (prog : Program) (w : World) (h₀ : Heap) (q : Option Addr) (os : OsState) : Cx :=
  { prog, w, K := hd.heap_39 w.params, h₀, q, C := 82, P := 115, cT := 119, os, lparams := lam120.1.1, lbody := lam120.1.2.1, lscope := lam120.1.2.2.1, lpos := lam120.1.2.2.2, lqual := "threaded.<locals>.<lambda>" }
structure Cfg (c : Cx) : Prop where
  ok : c.Ok
  eq : ∃ prog w h₀ q os, c = mkC prog w h₀ q os
  head : CodeHd c.h₀ c.cT c.P
  blt : ∃ mg, c.h₀.Ns mainGlobals mg ∧ c.h₀.BuiltinsAt mg c.P
section
variable {c : Cx} (k : Cfg c)
include k
theorem Cfg.hK : c.K = hd.heap_39 c.w.params := by obtain ⟨_, _, _, _, _, rfl⟩ := k.eq; rfl
theorem Cfg.hC : c.C = 82 := by obtain ⟨_, _, _, _, _, rfl⟩ := k.eq; rfl
theorem Cfg.bc : BodyCls c := cls_of k.hK k.hC
theorem Cfg.fi : ∃ oI, InitFn c 36 oI fd36.1 29 oT29 sc36.1 b36.1 ∧ InitB c fd36.1 29 oT29 := init_of k.hK k.hC
theorem Cfg.lo : LamOk c := by
  have h1 := k.head
  have h2 := k.blt
  obtain ⟨_, _, _, _, _, rfl⟩ := k.eq
  refine ⟨h1, h2, fun env a ha => ?_, fun _ => rfl, fun _ _ _ _ _ => rfl, rfl, rfl, rfl, ?_, lk_eq rfl, lk_eq rfl⟩
  · show closureFor lam120.1.2.2.1 env = _
    have e : cellOf env "body" = pure a := by unfold cellOf; rw [ha]
    have en : lam120.1.2.2.1.names = ([("block", .local), ("body", .free), ("goes_on", .globalImplicit)] : List (Str × NameKind)) := rfl
    unfold closureFor
    show (forIn lam120.1.2.2.1.names ([] : List (Str × Addr)) _ >>= _) = _
    rw [en]
    have n1 : (NameKind.local == NameKind.free) = false := by decide
    have n2 : (NameKind.globalImplicit == NameKind.free) = false := by decide
    simp only [List.forIn_cons, List.forIn_nil, n1, n2, beq_self_eq_true, if_true, Bool.false_eq_true, if_false, pure_bind, e]
  · intro x hx
    have h : (lam120.1.2.2.1.names.all fun x => !isK x.2 .cell) = true := rfl
    exact isK_cell (by simpa using List.all_eq_true.mp h x hx)
end
theorem args1 {P : List Value → Prop} (h : ∀ a, P [a]) : ∀ vals : List Value, vals.length = 1 → P vals := fun vals e => by
  rcases vals with _ | ⟨a, _ | ⟨b, l⟩⟩ <;> first | exact h a | cases e
theorem args2 {P : List Value → Prop} (h : ∀ a b, P [a, b]) : ∀ vals : List Value, vals.length = 2 → P vals := fun vals e => by
  rcases vals with _ | ⟨a, _ | ⟨b, _ | ⟨d, l⟩⟩⟩ <;> first | exact h a b | cases e
end Mine
end
section
open PySem PySem.Calls PySem.W PyProof.Rows
set_option maxHeartbeats 4000000
set_option linter.unusedVariables false
namespace Mine
noncomputable def fd91 : FdAt 91 := ⟨_, fun _ => ⟨_, _, _, rfl⟩⟩
noncomputable def b91 : BodyOf fd91.1 := ⟨_, rfl⟩
noncomputable def sc91 : ScOf fd91.1 := ⟨⟨_, _, _, _, _⟩, rfl⟩
theorem nsuccessors {c : Cx} (hK : c.K = hd.heap_39 c.w.params) : GFn c "successors" 91 := by unfold GFn; rw [hK]; exact ⟨rfl, _, _, rfl, rfl⟩
theorem at91 {c : Cx} (hK : c.K = hd.heap_39 c.w.params) : ∃ o, FnAt c 91 o fd91.1 sc91.1 b91.1 ["terminator"] :=
  ⟨_, by rw [hK]; rfl, rfl, b91.2, sc91.2, rfl, rfl, rfl, ⟨_, _, _, _, rfl, by rw [hK]; rfl, rfl, rfl⟩, args1 fun _ => rfl⟩
noncomputable def fsuccessors : SF := (sseq (sset 1 (cfrz (xsub (bname 0) (xk (.int 0)))))
  (sseq (sif (t2 eqD (bname 1) (xk (.str "goto"))) (sseq (sset 4 (cfrz (xlist (lcons (xsub (bname 0) (xk (.int 1))) lnil))))
  snil) (sseq (sif (t2 eqD (bname 1) (xk (.str "switch"))) (sseq (sset 4 (cfrz (op2 addD (xcomp [] (ival (xsub (bname 0) (xk (.int 2)))) (cbtup 2) tt (xname 1)) (xlist (lcons (xsub (bname 0) (xk (.int 3))) lnil)))))
  snil) (sseq (sif (t2 eqD (bname 1) (xk (.str "call"))) (sseq (sset 4 (cfrz (xlist (lcons (xsub (bname 0) (xk (.int 4))) lnil))))
  snil) (sseq (sif (t2 eqD (bname 1) (xk (.str "drop"))) (sseq (sset 4 (cfrz (xlist (lcons (xsub (bname 0) (xk (.int 2))) lnil))))
  snil) (sseq (sif (t2 eqD (bname 1) (xk (.str "assert"))) (sseq (sset 4 (cfrz (xlist (lcons (xsub (bname 0) (xk (.int 4))) lnil))))
  snil) (sseq (sset 4 (cfrz (xlist lnil)))
  snil))
  snil))
  snil))
  snil))
  snil))
  (sseq (sset 2 (cown (xlist lnil)))
  (sseq (sfor (ival (xname 4)) (tname 3) (sseq (sif (tand (t2 isntD (bname 3) (xk .none)) (t2 ninD (bname 3) (bname 2))) (sseq (sappend 2 (xname 3))
  snil) snil)
  snil))
  (sfrz 2 (sseq (sret (xname 2))
  snil))))))
noncomputable def Fsuccessors := fdef 1 4 fsuccessors
theorem dsuccessors {c : Cx} (k : Cfg c) : FS c 0 91 Fsuccessors := by
  have ok := k.ok
  have hK := k.hK
  have hC := k.hC
  have bc := k.bc
  have lo := k.lo
  obtain ⟨oI, fi, bb⟩ := k.fi
  have nd : (["terminator", "word", "found", "block", "told"] : List Str).Nodup := nodup_of rfl
  have h : SSs c 0 sc91.1 ["terminator", "word", "found", "block", "told"] [] b91.1 fsuccessors := (SSs.cons (SS.assign nd (SX.toC (SX.sub (SB.name (i := 0) rfl) (SX.toB SX.kint))) rfl (st_loc rfl))
  (SSs.cons (SS.ifs (ST.cmp op_eq (SB.name (i := 1) rfl) (SX.toB SX.kstr)) (SSs.cons (SS.assign nd (SX.toC (SX.list (SL.cons (SX.sub (SB.name (i := 0) rfl) (SX.toB SX.kint)) SL.nil))) rfl (st_loc rfl))
  SSs.nil) (SSs.cons (SS.ifs (ST.cmp op_eq (SB.name (i := 1) rfl) (SX.toB SX.kstr)) (SSs.cons (SS.assign nd (SX.toC (SX.binop op_add (SX.toB (SFr.toX ok (SFr.comp (cap := []) (xs := ["value", "block"]) (nm' := ["value", "block"]) (compOk_of rfl rfl) (SI.toB (SI.val (SX.sub (SB.name (i := 0) rfl) (SX.toB SX.kint)))) (SCb.tup (ps := [_, _]) rfl rfl (fun x hx => lk_eq (List.all_eq_true.mp (show (List.all _ fun x => lk _ x .local) = true from rfl) x hx)) (nodup_of rfl)) SIf.nil (SX.name (i := 1) rfl)))) (SX.toB (SX.list (SL.cons (SX.sub (SB.name (i := 0) rfl) (SX.toB SX.kint)) SL.nil))))) rfl (st_loc rfl))
  SSs.nil) (SSs.cons (SS.ifs (ST.cmp op_eq (SB.name (i := 1) rfl) (SX.toB SX.kstr)) (SSs.cons (SS.assign nd (SX.toC (SX.list (SL.cons (SX.sub (SB.name (i := 0) rfl) (SX.toB SX.kint)) SL.nil))) rfl (st_loc rfl))
  SSs.nil) (SSs.cons (SS.ifs (ST.cmp op_eq (SB.name (i := 1) rfl) (SX.toB SX.kstr)) (SSs.cons (SS.assign nd (SX.toC (SX.list (SL.cons (SX.sub (SB.name (i := 0) rfl) (SX.toB SX.kint)) SL.nil))) rfl (st_loc rfl))
  SSs.nil) (SSs.cons (SS.ifs (ST.cmp op_eq (SB.name (i := 1) rfl) (SX.toB SX.kstr)) (SSs.cons (SS.assign nd (SX.toC (SX.list (SL.cons (SX.sub (SB.name (i := 0) rfl) (SX.toB SX.kint)) SL.nil))) rfl (st_loc rfl))
  SSs.nil) (SSs.cons (SS.assign nd (SX.toC (SX.list SL.nil)) rfl (st_loc rfl))
  SSs.nil))
  SSs.nil))
  SSs.nil))
  SSs.nil))
  SSs.nil))
  (SSs.cons (SS.assign nd (SFr.toC ok (SFr.list SL.nil)) rfl (st_loc rfl))
  (SSs.cons (SS.fors (SI.val (SX.name (i := 4) rfl)) (STg.name nd rfl (st_loc rfl)) (SSs.cons (SS.ifs (ST.and2 (ST.cmp op_isnt (SB.name (i := 3) rfl) (SX.toB SX.knone)) (ST.cmp op_nin (SB.name (i := 3) rfl) (SB.name (i := 2) rfl))) (SSs.cons (SS.append rfl (SX.name (i := 3) rfl))
  SSs.nil) SSs.nil)
  SSs.nil))
  (SSs.frz (SSs.cons (SS.ret (SX.name (i := 2) rfl))
  SSs.nil))))))
  obtain ⟨o, fa⟩ := at91 hK
  exact FS.of ok fa (sig_of rfl) (by decide) h
noncomputable def fd108 : FdAt 108 := ⟨_, fun _ => ⟨_, _, _, rfl⟩⟩
noncomputable def b108 : BodyOf fd108.1 := ⟨_, rfl⟩
noncomputable def sc108 : ScOf fd108.1 := ⟨⟨_, _, _, _, _⟩, rfl⟩
theorem ngoes_on {c : Cx} (hK : c.K = hd.heap_39 c.w.params) : GFn c "goes_on" 108 := by unfold GFn; rw [hK]; exact ⟨rfl, _, _, rfl, rfl⟩
theorem at108 {c : Cx} (hK : c.K = hd.heap_39 c.w.params) : ∃ o, FnAt c 108 o fd108.1 sc108.1 b108.1 ["body", "number"] :=
  ⟨_, by rw [hK]; rfl, rfl, b108.2, sc108.2, rfl, rfl, rfl, ⟨_, _, _, _, rfl, by rw [hK]; rfl, rfl, rfl⟩, args2 fun _ _ => rfl⟩
noncomputable def fgoes_on : SF := (sseq (sset 2 (cown xd0))
  (sseq (whileL (tand (t2 eqD (xsub (xsub (xattr 3 (xname 0)) (bname 1)) (xk (.int 0))) (xlist lnil)) (tand (t2 eqD (xsub (xsub (xsub (xattr 3 (xname 0)) (bname 1)) (xk (.int 1))) (xk (.int 0))) (xk (.str "goto"))) (t2 ninD (bname 1) (bname 2)))) (sseq (sput 2 (xname 1) (xk (.bool true)))
  (sseq (sset 1 (cfrz (xsub (xsub (xsub (xattr 3 (xname 0)) (bname 1)) (xk (.int 1))) (xk (.int 1)))))
  snil)) 64)
  (sseq (sret (xname 1))
  snil)))
noncomputable def Fgoes_on := fdef 2 1 fgoes_on
theorem dgoes_on {c : Cx} (k : Cfg c) : FS c 0 108 Fgoes_on := by
  have ok := k.ok
  have hK := k.hK
  have hC := k.hC
  have bc := k.bc
  have lo := k.lo
  obtain ⟨oI, fi, bb⟩ := k.fi
  have nd : (["body", "number", "met"] : List Str).Nodup := nodup_of rfl
  have h : SSs c 0 sc108.1 ["body", "number", "met"] [] b108.1 fgoes_on := (SSs.cons (SS.assign nd (SFr.toC ok SFr.dict0) rfl (st_loc rfl))
  (SSs.cons (SS.whiles 64 (ST.and3 (ST.cmp op_eq (SX.toB (SX.sub (SX.toB (SX.sub (SX.toB (SX.attr (k := 3) ok (SX.name (i := 0) rfl) rfl)) (SB.name (i := 1) rfl))) (SX.toB SX.kint))) (SX.toB (SX.list SL.nil))) (ST.cmp op_eq (SX.toB (SX.sub (SX.toB (SX.sub (SX.toB (SX.sub (SX.toB (SX.attr (k := 3) ok (SX.name (i := 0) rfl) rfl)) (SB.name (i := 1) rfl))) (SX.toB SX.kint))) (SX.toB SX.kint))) (SX.toB SX.kstr)) (ST.cmp op_nin (SB.name (i := 1) rfl) (SB.name (i := 2) rfl))) (SSs.cons (SS.put rfl (SX.name (i := 1) rfl) SX.kbool)
  (SSs.cons (SS.assign nd (SX.toC (SX.sub (SX.toB (SX.sub (SX.toB (SX.sub (SX.toB (SX.attr (k := 3) ok (SX.name (i := 0) rfl) rfl)) (SB.name (i := 1) rfl))) (SX.toB SX.kint))) (SX.toB SX.kint))) rfl (st_loc rfl))
  SSs.nil)))
  (SSs.cons (SS.ret (SX.name (i := 1) rfl))
  SSs.nil)))
  obtain ⟨o, fa⟩ := at108 hK
  exact FS.of ok fa (sig_of rfl) (by decide) h
noncomputable def fd113 : FdAt 113 := ⟨_, fun _ => ⟨_, _, _, rfl⟩⟩
noncomputable def b113 : BodyOf fd113.1 := ⟨_, rfl⟩
noncomputable def sc113 : ScOf fd113.1 := ⟨⟨_, _, _, _, _⟩, rfl⟩
theorem nplain_switch {c : Cx} (hK : c.K = hd.heap_39 c.w.params) : GFn c "plain_switch" 113 := by unfold GFn; rw [hK]; exact ⟨rfl, _, _, rfl, rfl⟩
theorem at113 {c : Cx} (hK : c.K = hd.heap_39 c.w.params) : ∃ o, FnAt c 113 o fd113.1 sc113.1 b113.1 ["terminator"] :=
  ⟨_, by rw [hK]; rfl, rfl, b113.2, sc113.2, rfl, rfl, rfl, ⟨_, _, _, _, rfl, by rw [hK]; rfl, rfl, rfl⟩, args1 fun _ => rfl⟩
noncomputable def fplain_switch : SF := (sseq (sif (t2 neD (xsub (bname 0) (xk (.int 0))) (xk (.str "switch"))) (sseq (sret (xname 0))
  snil) snil)
  (sseq (sset 1 (cfrz (xcall Fsuccessors (lcons (xname 0) lnil))))
  (sseq (sif (tor (t2 eqD (bname 1) (xlist lnil)) (t2 neD (xcomp [1] (ival (xname 1)) cbname (t2 neD (bname 1) (xsub (bname 0) (xk (.int 0)))) (xname 1)) (xlist lnil))) (sseq (sret (xname 0))
  snil) snil)
  (sseq (sret (xif (t2 isntD (xsub (bname 0) (xk (.int 3))) (xk .none)) (xtup (lcons (xk (.str "goto")) (lcons (xsub (bname 1) (xk (.int 0))) lnil))) (xname 0)))
  snil))))
noncomputable def Fplain_switch := fdef 1 1 fplain_switch
theorem dplain_switch {c : Cx} (k : Cfg c) : FS c 1 113 Fplain_switch := by
  have ok := k.ok
  have hK := k.hK
  have hC := k.hC
  have bc := k.bc
  have lo := k.lo
  obtain ⟨oI, fi, bb⟩ := k.fi
  have nd : (["terminator", "targets"] : List Str).Nodup := nodup_of rfl
  have h : SSs c 1 sc113.1 ["terminator", "targets"] ["targets"] b113.1 fplain_switch := (SSs.cons (SS.ifs (ST.cmp op_ne (SX.toB (SX.sub (SB.name (i := 0) rfl) (SX.toB SX.kint))) (SX.toB SX.kstr)) (SSs.cons (SS.ret (SX.name (i := 0) rfl))
  SSs.nil) SSs.nil)
  (SSs.cons (SS.assign nd (SX.toC (SX.call ok (nsuccessors hK) (dsuccessors k) (by decide) (SL.cons (SX.name (i := 0) rfl) SL.nil))) rfl (st_cell rfl))
  (SSs.cons (SS.ifs (ST.or2 (ST.cmp op_eq (SB.name (i := 1) rfl) (SX.toB (SX.list SL.nil))) (ST.cmp op_ne (SX.toB (SFr.toX ok (SFr.comp (cap := [1]) (xs := ["block"]) (nm' := ["targets", "block"]) (compOk_of rfl rfl) (SI.toB (SI.val (SX.name (i := 1) rfl))) (SCb.name (lk_eq rfl)) (SIf.one (ST.cmp op_ne (SB.name (i := 1) rfl) (SX.toB (SX.sub (SB.name (i := 0) rfl) (SX.toB SX.kint))))) (SX.name (i := 1) rfl)))) (SX.toB (SX.list SL.nil)))) (SSs.cons (SS.ret (SX.name (i := 0) rfl))
  SSs.nil) SSs.nil)
  (SSs.cons (SS.ret (SX.ifx (ST.cmp op_isnt (SX.toB (SX.sub (SB.name (i := 0) rfl) (SX.toB SX.kint))) (SX.toB SX.knone)) (SX.tup (SL.cons SX.kstr (SL.cons (SX.sub (SB.name (i := 1) rfl) (SX.toB SX.kint)) SL.nil))) (SX.name (i := 0) rfl)))
  SSs.nil))))
  obtain ⟨o, fa⟩ := at113 hK
  exact FS.of ok fa (sig_of rfl) (by decide) h
noncomputable def fd127 : FdAt 127 := ⟨_, fun _ => ⟨_, _, _, rfl⟩⟩
noncomputable def b127 : BodyOf fd127.1 := ⟨_, rfl⟩
noncomputable def sc127 : ScOf fd127.1 := ⟨⟨_, _, _, _, _⟩, rfl⟩
theorem ncome_to {c : Cx} (hK : c.K = hd.heap_39 c.w.params) : GFn c "come_to" 127 := by unfold GFn; rw [hK]; exact ⟨rfl, _, _, rfl, rfl⟩
theorem at127 {c : Cx} (hK : c.K = hd.heap_39 c.w.params) : ∃ o, FnAt c 127 o fd127.1 sc127.1 b127.1 ["body"] :=
  ⟨_, by rw [hK]; rfl, rfl, b127.2, sc127.2, rfl, rfl, rfl, ⟨_, _, _, _, rfl, by rw [hK]; rfl, rfl, rfl⟩, args1 fun _ => rfl⟩
noncomputable def fcome_to : SF := (sseq (spar [2, 3] (lccons (cown (xlist lnil)) (lccons (cown (xlist (lcons (xk (.int 0)) lnil))) lcnil)))
  (sseq (sset 1 (cown (xd1 (xk (.int 0)) (xk (.bool true)))))
  (sseq (whileL (t2 neD (bname 3) (xlist lnil)) (sseq (spop 4 3)
  (sseq (sappend 2 (xname 4))
  (sseq (sfor (ival (xcall Fsuccessors (lcons (xsub (xsub (xattr 3 (xname 0)) (bname 4)) (xk (.int 1))) lnil))) (tname 5) (sseq (sif (t2 ninD (bname 5) (bname 1)) (sseq (sput 1 (xname 5) (xk (.bool true)))
  (sseq (sappend 3 (xname 5))
  snil)) snil)
  snil))
  snil))) 64)
  (sfrz 2 (sseq (sret (xname 2))
  snil)))))
noncomputable def Fcome_to := fdef 1 5 fcome_to
theorem dcome_to {c : Cx} (k : Cfg c) : FS c 1 127 Fcome_to := by
  have ok := k.ok
  have hK := k.hK
  have hC := k.hC
  have bc := k.bc
  have lo := k.lo
  obtain ⟨oI, fi, bb⟩ := k.fi
  have nd : (["body", "met", "found", "left", "number", "block"] : List Str).Nodup := nodup_of rfl
  have h : SSs c 1 sc127.1 ["body", "met", "found", "left", "number", "block"] [] b127.1 fcome_to := (SSs.cons (SS.par (xs := ["found", "left"]) (is := [2, 3]) nd rfl (by decide) (par_of rfl) (SLC.cons (SFr.toC ok (SFr.list SL.nil)) (SLC.cons (SFr.toC ok (SFr.list (SL.cons SX.kint SL.nil))) SLC.nil)) (by intro env h; cases env; subst h; rfl))
  (SSs.cons (SS.assign nd (SFr.toC ok (SFr.dict1 SX.kint SX.kbool)) rfl (st_loc rfl))
  (SSs.cons (SS.whiles 64 (ST.cmp op_ne (SB.name (i := 3) rfl) (SX.toB (SX.list SL.nil))) (SSs.cons (SS.pop nd rfl rfl (by decide) (st_loc rfl))
  (SSs.cons (SS.append rfl (SX.name (i := 4) rfl))
  (SSs.cons (SS.fors (SI.val (SX.call ok (nsuccessors hK) (dsuccessors k) (by decide) (SL.cons (SX.sub (SX.toB (SX.sub (SX.toB (SX.attr (k := 3) ok (SX.name (i := 0) rfl) rfl)) (SB.name (i := 4) rfl))) (SX.toB SX.kint)) SL.nil))) (STg.name nd rfl (st_loc rfl)) (SSs.cons (SS.ifs (ST.cmp op_nin (SB.name (i := 5) rfl) (SB.name (i := 1) rfl)) (SSs.cons (SS.put rfl (SX.name (i := 5) rfl) SX.kbool)
  (SSs.cons (SS.append rfl (SX.name (i := 5) rfl))
  SSs.nil)) SSs.nil)
  SSs.nil))
  SSs.nil))))
  (SSs.frz (SSs.cons (SS.ret (SX.name (i := 2) rfl))
  SSs.nil)))))
  obtain ⟨o, fa⟩ := at127 hK
  exact FS.of ok fa (sig_of rfl) (by decide) h
noncomputable def fd134 : FdAt 134 := ⟨_, fun _ => ⟨_, _, _, rfl⟩⟩
noncomputable def b134 : BodyOf fd134.1 := ⟨_, rfl⟩
noncomputable def sc134 : ScOf fd134.1 := ⟨⟨_, _, _, _, _⟩, rfl⟩
theorem nways_into {c : Cx} (hK : c.K = hd.heap_39 c.w.params) : GFn c "ways_into" 134 := by unfold GFn; rw [hK]; exact ⟨rfl, _, _, rfl, rfl⟩
theorem at134 {c : Cx} (hK : c.K = hd.heap_39 c.w.params) : ∃ o, FnAt c 134 o fd134.1 sc134.1 b134.1 ["body", "blocks"] :=
  ⟨_, by rw [hK]; rfl, rfl, b134.2, sc134.2, rfl, rfl, rfl, ⟨_, _, _, _, rfl, by rw [hK]; rfl, rfl, rfl⟩, args2 fun _ _ => rfl⟩
noncomputable def fways_into : SF := (sseq (sset 2 (cown (xd1 (xk (.int 0)) (xk (.int 1)))))
  (sseq (sfor (ival (xname 1)) (tname 3) (sseq (sfor (ival (xcall Fsuccessors (lcons (xsub (xsub (xattr 3 (xname 0)) (bname 3)) (xk (.int 1))) lnil))) (tname 4) (sseq (sput 2 (xname 4) (op2 addD (xget (bname 2) (xname 4) (xk (.int 0))) (xk (.int 1))))
  snil))
  snil))
  (sfrz 2 (sseq (sret (xname 2))
  snil))))
noncomputable def Fways_into := fdef 2 3 fways_into
theorem dways_into {c : Cx} (k : Cfg c) : FS c 1 134 Fways_into := by
  have ok := k.ok
  have hK := k.hK
  have hC := k.hC
  have bc := k.bc
  have lo := k.lo
  obtain ⟨oI, fi, bb⟩ := k.fi
  have nd : (["body", "blocks", "found", "number", "block"] : List Str).Nodup := nodup_of rfl
  have h : SSs c 1 sc134.1 ["body", "blocks", "found", "number", "block"] [] b134.1 fways_into := (SSs.cons (SS.assign nd (SFr.toC ok (SFr.dict1 SX.kint SX.kint)) rfl (st_loc rfl))
  (SSs.cons (SS.fors (SI.val (SX.name (i := 1) rfl)) (STg.name nd rfl (st_loc rfl)) (SSs.cons (SS.fors (SI.val (SX.call ok (nsuccessors hK) (dsuccessors k) (by decide) (SL.cons (SX.sub (SX.toB (SX.sub (SX.toB (SX.attr (k := 3) ok (SX.name (i := 0) rfl) rfl)) (SB.name (i := 3) rfl))) (SX.toB SX.kint)) SL.nil))) (STg.name nd rfl (st_loc rfl)) (SSs.cons (SS.put rfl (SX.name (i := 4) rfl) (SX.binop op_add (SX.toB (SX.get (SB.name (i := 2) rfl) (SX.name (i := 4) rfl) SX.kint)) (SX.toB SX.kint)))
  SSs.nil))
  SSs.nil))
  (SSs.frz (SSs.cons (SS.ret (SX.name (i := 2) rfl))
  SSs.nil))))
  obtain ⟨o, fa⟩ := at134 hK
  exact FS.of ok fa (sig_of rfl) (by decide) h
noncomputable def fd141 : FdAt 141 := ⟨_, fun _ => ⟨_, _, _, rfl⟩⟩
noncomputable def b141 : BodyOf fd141.1 := ⟨_, rfl⟩
noncomputable def sc141 : ScOf fd141.1 := ⟨⟨_, _, _, _, _⟩, rfl⟩
theorem nchains {c : Cx} (hK : c.K = hd.heap_39 c.w.params) : GFn c "chains" 141 := by unfold GFn; rw [hK]; exact ⟨rfl, _, _, rfl, rfl⟩
theorem at141 {c : Cx} (hK : c.K = hd.heap_39 c.w.params) : ∃ o, FnAt c 141 o fd141.1 sc141.1 b141.1 ["body"] :=
  ⟨_, by rw [hK]; rfl, rfl, b141.2, sc141.2, rfl, rfl, rfl, ⟨_, _, _, _, rfl, by rw [hK]; rfl, rfl, rfl⟩, args1 fun _ => rfl⟩
noncomputable def fchains : SF := (sseq (sset 1 (cfrz (xcall Fcome_to (lcons (xname 0) lnil))))
  (sseq (spar [3, 4, 5] (lccons (cfrz (xcall Fways_into (lcons (xname 0) (lcons (xname 1) lnil)))) (lccons (cown (xlist lnil)) (lccons (cown xd0) lcnil))))
  (sseq (sfor (ival (xname 1)) (tname 2) (sseq (sif (t2 inD (bname 2) (bname 5)) (sseq (fun ρ σ => some (.cont, ρ, σ))
  snil) snil)
  (sseq (sset 6 (cown (xlist (lcons (xname 2) lnil))))
  (sseq (sput 5 (xname 2) (xk (.bool true)))
  (sseq (whileL (t2 eqD (xsub (xsub (xsub (xattr 3 (xname 0)) (xsub (bname 6) (op1 negD (xk (.int 1))))) (xk (.int 1))) (xk (.int 0))) (xk (.str "goto"))) (sseq (sset 7 (cfrz (xsub (xsub (xsub (xattr 3 (xname 0)) (xsub (bname 6) (op1 negD (xk (.int 1))))) (xk (.int 1))) (xk (.int 1)))))
  (sseq (sif (tor (t2 neD (xsub (bname 3) (bname 7)) (xk (.int 1))) (t2 inD (bname 7) (bname 5))) (sseq (fun ρ σ => some (.brk, ρ, σ))
  snil) snil)
  (sseq (sappend 6 (xname 7))
  (sseq (sput 5 (xname 7) (xk (.bool true)))
  snil)))) 64)
  (sfrz 6 (sseq (sappend 4 (xname 6))
  snil)))))))
  (sfrz 4 (sseq (sret (xname 4))
  snil)))))
noncomputable def Fchains := fdef 1 7 fchains
theorem dchains {c : Cx} (k : Cfg c) : FS c 2 141 Fchains := by
  have ok := k.ok
  have hK := k.hK
  have hC := k.hC
  have bc := k.bc
  have lo := k.lo
  obtain ⟨oI, fi, bb⟩ := k.fi
  have nd : (["body", "blocks", "number", "ways", "found", "used", "row", "behind"] : List Str).Nodup := nodup_of rfl
  have h : SSs c 2 sc141.1 ["body", "blocks", "number", "ways", "found", "used", "row", "behind"] [] b141.1 fchains := (SSs.cons (SS.assign nd (SX.toC (SX.call ok (ncome_to hK) (dcome_to k) (by decide) (SL.cons (SX.name (i := 0) rfl) SL.nil))) rfl (st_loc rfl))
  (SSs.cons (SS.par (xs := ["ways", "found", "used"]) (is := [3, 4, 5]) nd rfl (by decide) (par_of rfl) (SLC.cons (SX.toC (SX.call ok (nways_into hK) (dways_into k) (by decide) (SL.cons (SX.name (i := 0) rfl) (SL.cons (SX.name (i := 1) rfl) SL.nil)))) (SLC.cons (SFr.toC ok (SFr.list SL.nil)) (SLC.cons (SFr.toC ok SFr.dict0) SLC.nil))) (by intro env h; cases env; subst h; rfl))
  (SSs.cons (SS.fors (SI.val (SX.name (i := 1) rfl)) (STg.name nd rfl (st_loc rfl)) (SSs.cons (SS.ifs (ST.cmp op_in (SB.name (i := 2) rfl) (SB.name (i := 5) rfl)) (SSs.cons SS.cont
  SSs.nil) SSs.nil)
  (SSs.cons (SS.assign nd (SFr.toC ok (SFr.list (SL.cons (SX.name (i := 2) rfl) SL.nil))) rfl (st_loc rfl))
  (SSs.cons (SS.put rfl (SX.name (i := 2) rfl) SX.kbool)
  (SSs.cons (SS.whiles 64 (ST.cmp op_eq (SX.toB (SX.sub (SX.toB (SX.sub (SX.toB (SX.sub (SX.toB (SX.attr (k := 3) ok (SX.name (i := 0) rfl) rfl)) (SX.toB (SX.sub (SB.name (i := 6) rfl) (SX.toB (SX.unop op_neg (SX.toB SX.kint))))))) (SX.toB SX.kint))) (SX.toB SX.kint))) (SX.toB SX.kstr)) (SSs.cons (SS.assign nd (SX.toC (SX.sub (SX.toB (SX.sub (SX.toB (SX.sub (SX.toB (SX.attr (k := 3) ok (SX.name (i := 0) rfl) rfl)) (SX.toB (SX.sub (SB.name (i := 6) rfl) (SX.toB (SX.unop op_neg (SX.toB SX.kint))))))) (SX.toB SX.kint))) (SX.toB SX.kint))) rfl (st_loc rfl))
  (SSs.cons (SS.ifs (ST.or2 (ST.cmp op_ne (SX.toB (SX.sub (SB.name (i := 3) rfl) (SB.name (i := 7) rfl))) (SX.toB SX.kint)) (ST.cmp op_in (SB.name (i := 7) rfl) (SB.name (i := 5) rfl))) (SSs.cons SS.brk
  SSs.nil) SSs.nil)
  (SSs.cons (SS.append rfl (SX.name (i := 7) rfl))
  (SSs.cons (SS.put rfl (SX.name (i := 7) rfl) SX.kbool)
  SSs.nil)))))
  (SSs.frz (SSs.cons (SS.append rfl (SX.name (i := 6) rfl))
  SSs.nil)))))))
  (SSs.frz (SSs.cons (SS.ret (SX.name (i := 4) rfl))
  SSs.nil)))))
  obtain ⟨o, fa⟩ := at141 hK
  exact FS.of ok fa (sig_of rfl) (by decide) h
end Mine
end
section
open PySem PySem.Calls PySem.W PyProof.Rows
set_option maxHeartbeats 4000000
set_option linter.unusedVariables false
namespace Mine
noncomputable def fLam : EX := xcall Fgoes_on (lcons (xname 0) (lcons (xname 1) lnil))
theorem dLam {c : Cx} (k : Cfg c) : SX c 1 c.lscope ["body", "block"] c.lbody fLam := by
  obtain ⟨p, w, h, q, os, e⟩ := k.eq
  subst e
  show SX _ 1 lam120.1.2.2.1 _ lam120.1.2.1 _
  exact SX.call k.ok (ngoes_on k.hK) (dgoes_on k) (by decide) (SL.cons (SX.name (i := 0) rfl) (SL.cons (SX.name (i := 1) rfl) SL.nil))
noncomputable def fd96 : FdAt 96 := ⟨_, fun _ => ⟨_, _, _, rfl⟩⟩
noncomputable def b96 : BodyOf fd96.1 := ⟨_, rfl⟩
noncomputable def sc96 : ScOf fd96.1 := ⟨⟨_, _, _, _, _⟩, rfl⟩
theorem nretargeted {c : Cx} (hK : c.K = hd.heap_39 c.w.params) : GFn c "retargeted" 96 := by unfold GFn; rw [hK]; exact ⟨rfl, _, _, rfl, rfl⟩
theorem at96 {c : Cx} (hK : c.K = hd.heap_39 c.w.params) : ∃ o, FnAt c 96 o fd96.1 sc96.1 b96.1 ["terminator", "turned"] :=
  ⟨_, by rw [hK]; rfl, rfl, b96.2, sc96.2, rfl, rfl, rfl, ⟨_, _, _, _, rfl, by rw [hK]; rfl, rfl, rfl⟩, args2 fun _ _ => rfl⟩
noncomputable def fretargeted : SF := (sseq (sset 2 (cfrz (xsub (bname 0) (xk (.int 0)))))
  (sseq (sif (t2 eqD (bname 2) (xk (.str "goto"))) (sseq (sret (xtup (lcons (xk (.str "goto")) (lcons (xturn 1 fLam (xsub (bname 0) (xk (.int 1)))) lnil))))
  snil) snil)
  (sseq (sif (t2 eqD (bname 2) (xk (.str "switch"))) (sseq (sset 3 (cfrz (op1 tupD (xcomp [1] (ival (xsub (bname 0) (xk (.int 2)))) (cbtup 2) tt (xtup (lcons (xname 1) (lcons (xturn 0 fLam (xname 2)) lnil)))))))
  (sseq (sret (xtup (lcons (xk (.str "switch")) (lcons (xsub (bname 0) (xk (.int 1))) (lcons (xname 3) (lcons (xif (t2 isD (xsub (bname 0) (xk (.int 3))) (xk .none)) (xk .none) (xturn 1 fLam (xsub (bname 0) (xk (.int 3))))) lnil))))))
  snil)) snil)
  (sseq (sif (t2 eqD (bname 2) (xk (.str "call"))) (sseq (sret (op2 addD (xslc (bname 0) (xk .none) (xk (.int 4))) (xtup (lcons (xif (t2 isD (xsub (bname 0) (xk (.int 4))) (xk .none)) (xk .none) (xturn 1 fLam (xsub (bname 0) (xk (.int 4))))) lnil))))
  snil) snil)
  (sseq (sif (t2 eqD (bname 2) (xk (.str "drop"))) (sseq (sret (xtup (lcons (xk (.str "drop")) (lcons (xsub (bname 0) (xk (.int 1))) (lcons (xturn 1 fLam (xsub (bname 0) (xk (.int 2)))) lnil)))))
  snil) snil)
  (sseq (sif (t2 eqD (bname 2) (xk (.str "assert"))) (sseq (sret (op2 addD (xslc (bname 0) (xk .none) (xk (.int 4))) (xtup (lcons (xturn 1 fLam (xsub (bname 0) (xk (.int 4)))) lnil))))
  snil) snil)
  (sseq (sret (xname 0))
  snil)))))))
noncomputable def Fretargeted := fdef 2 2 fretargeted
theorem dretargeted {c : Cx} (k : Cfg c) : FS c 2 96 Fretargeted := by
  have ok := k.ok
  have hK := k.hK
  have hC := k.hC
  have bc := k.bc
  have lo := k.lo
  obtain ⟨oI, fi, bb⟩ := k.fi
  have nd : (["terminator", "turned", "word", "rows"] : List Str).Nodup := nodup_of rfl
  have h : SSs c 2 sc96.1 ["terminator", "turned", "word", "rows"] [] b96.1 fretargeted := (SSs.cons (SS.assign nd (SX.toC (SX.sub (SB.name (i := 0) rfl) (SX.toB SX.kint))) rfl (st_loc rfl))
  (SSs.cons (SS.ifs (ST.cmp op_eq (SB.name (i := 2) rfl) (SX.toB SX.kstr)) (SSs.cons (SS.ret (SX.tup (SL.cons SX.kstr (SL.cons (SX.turn (i := 1) ok lo rfl (dLam k) (by decide) (SX.sub (SB.name (i := 0) rfl) (SX.toB SX.kint))) SL.nil))))
  SSs.nil) SSs.nil)
  (SSs.cons (SS.ifs (ST.cmp op_eq (SB.name (i := 2) rfl) (SX.toB SX.kstr)) (SSs.cons (SS.assign nd (SX.toC (SX.ty1 ok (g_tuple hK) op_tup (SX.toB (SFr.toX ok (SFr.comp (cap := [1]) (xs := ["value", "block"]) (nm' := ["turned", "value", "block"]) (compOk_of rfl rfl) (SI.toB (SI.val (SX.sub (SB.name (i := 0) rfl) (SX.toB SX.kint)))) (SCb.tup (ps := [_, _]) rfl rfl (fun x hx => lk_eq (List.all_eq_true.mp (show (List.all _ fun x => lk _ x .local) = true from rfl) x hx)) (nodup_of rfl)) SIf.nil (SX.tup (SL.cons (SX.name (i := 1) rfl) (SL.cons (SX.turn (i := 0) ok lo rfl (dLam k) (by decide) (SX.name (i := 2) rfl)) SL.nil)))))))) rfl (st_loc rfl))
  (SSs.cons (SS.ret (SX.tup (SL.cons SX.kstr (SL.cons (SX.sub (SB.name (i := 0) rfl) (SX.toB SX.kint)) (SL.cons (SX.name (i := 3) rfl) (SL.cons (SX.ifx (ST.cmp op_is (SX.toB (SX.sub (SB.name (i := 0) rfl) (SX.toB SX.kint))) (SX.toB SX.knone)) SX.knone (SX.turn (i := 1) ok lo rfl (dLam k) (by decide) (SX.sub (SB.name (i := 0) rfl) (SX.toB SX.kint)))) SL.nil))))))
  SSs.nil)) SSs.nil)
  (SSs.cons (SS.ifs (ST.cmp op_eq (SB.name (i := 2) rfl) (SX.toB SX.kstr)) (SSs.cons (SS.ret (SX.binop op_add (SX.toB (SX.slc (SB.name (i := 0) rfl) SPt.non (SPt.som SX.kint))) (SX.toB (SX.tup (SL.cons (SX.ifx (ST.cmp op_is (SX.toB (SX.sub (SB.name (i := 0) rfl) (SX.toB SX.kint))) (SX.toB SX.knone)) SX.knone (SX.turn (i := 1) ok lo rfl (dLam k) (by decide) (SX.sub (SB.name (i := 0) rfl) (SX.toB SX.kint)))) SL.nil)))))
  SSs.nil) SSs.nil)
  (SSs.cons (SS.ifs (ST.cmp op_eq (SB.name (i := 2) rfl) (SX.toB SX.kstr)) (SSs.cons (SS.ret (SX.tup (SL.cons SX.kstr (SL.cons (SX.sub (SB.name (i := 0) rfl) (SX.toB SX.kint)) (SL.cons (SX.turn (i := 1) ok lo rfl (dLam k) (by decide) (SX.sub (SB.name (i := 0) rfl) (SX.toB SX.kint))) SL.nil)))))
  SSs.nil) SSs.nil)
  (SSs.cons (SS.ifs (ST.cmp op_eq (SB.name (i := 2) rfl) (SX.toB SX.kstr)) (SSs.cons (SS.ret (SX.binop op_add (SX.toB (SX.slc (SB.name (i := 0) rfl) SPt.non (SPt.som SX.kint))) (SX.toB (SX.tup (SL.cons (SX.turn (i := 1) ok lo rfl (dLam k) (by decide) (SX.sub (SB.name (i := 0) rfl) (SX.toB SX.kint))) SL.nil)))))
  SSs.nil) SSs.nil)
  (SSs.cons (SS.ret (SX.name (i := 0) rfl))
  SSs.nil)))))))
  obtain ⟨o, fa⟩ := at96 hK
  exact FS.of ok fa (sig_of rfl) (by decide) h
noncomputable def fd101 : FdAt 101 := ⟨_, fun _ => ⟨_, _, _, rfl⟩⟩
noncomputable def b101 : BodyOf fd101.1 := ⟨_, rfl⟩
noncomputable def sc101 : ScOf fd101.1 := ⟨⟨_, _, _, _, _⟩, rfl⟩
theorem ncopied {c : Cx} (hK : c.K = hd.heap_39 c.w.params) : GFn c "copied" 101 := by unfold GFn; rw [hK]; exact ⟨rfl, _, _, rfl, rfl⟩
theorem at101 {c : Cx} (hK : c.K = hd.heap_39 c.w.params) : ∃ o, FnAt c 101 o fd101.1 sc101.1 b101.1 ["body"] :=
  ⟨_, by rw [hK]; rfl, rfl, b101.2, sc101.2, rfl, rfl, rfl, ⟨_, _, _, _, rfl, by rw [hK]; rfl, rfl, rfl⟩, args1 fun _ => rfl⟩
noncomputable def Fcopied := fcop 1 1 (sset 1 (cown (xcomp [] (ival (xattr 3 (xname 0))) (cbtup 2) tt (xlist (lcons (op1 listD (bname 0)) (lcons (xname 1) lnil)))))) (xattr 0 (xname 0)) (xattr 1 (xname 0)) (xattr 2 (xname 0)) 1 (op1 dictD (xattr 4 (xname 0)))
theorem dcopied {c : Cx} (k : Cfg c) : FSO c 3 101 Fcopied := by
  have ok := k.ok
  have hK := k.hK
  have hC := k.hC
  have bc := k.bc
  have lo := k.lo
  obtain ⟨oI, fi, bb⟩ := k.fi
  have nd : (["body", "blocks"] : List Str).Nodup := nodup_of rfl
  obtain ⟨o, fa⟩ := at101 hK
  exact FSO.of (n := 3) (nm := ["body", "blocks"]) (wr := []) ok bc (g_list hK) fi bb fa (sig_of rfl) (by decide) (SS.assignComp (i := 1) nd ok (cap := []) (xs := ["statements", "terminator"]) (nm' := ["statements", "terminator"]) (compOk_of rfl rfl) (SI.toB (SI.val (SX.attr (k := 3) ok (SX.name (i := 0) rfl) rfl))) (SCb.tup (ps := [_, _]) rfl rfl (fun x hx => lk_eq (List.all_eq_true.mp (show (List.all _ fun x => lk _ x .local) = true from rfl) x hx)) (nodup_of rfl)) SIf.nil (SX.list (SL.cons (SX.ty1 ok (g_list hK) op_list (SB.name (i := 0) rfl)) (SL.cons (SX.name (i := 1) rfl) SL.nil))) rfl (st_loc rfl) (by intro env h; cases env; subst h; rfl)) (SX.attr (k := 0) ok (SX.name (i := 0) rfl) rfl) (SX.attr (k := 1) ok (SX.name (i := 0) rfl) rfl) (SX.attr (k := 2) ok (SX.name (i := 0) rfl) rfl) rfl (SX.ty1 ok (g_dict hK) (op_dict ok) (SX.toB (SX.attr (k := 4) ok (SX.name (i := 0) rfl) rfl))) (n_Body hK hC) (k_Body hK hC) (by decide)
theorem nthreaded {c : Cx} (hK : c.K = hd.heap_39 c.w.params) : GFn c "threaded" 120 := by unfold GFn; rw [hK]; exact ⟨rfl, _, _, rfl, rfl⟩
theorem at120 {c : Cx} (hK : c.K = hd.heap_39 c.w.params) : ∃ o, FnAt c 120 o fd120.1 sc120.1 b120.1 ["body"] :=
  ⟨_, by rw [hK]; rfl, rfl, b120.2, sc120.2, rfl, rfl, rfl, ⟨_, _, _, _, rfl, by rw [hK]; rfl, rfl, rfl⟩, args1 fun _ => rfl⟩
noncomputable def fthreaded : SF := (sseq (sset 1 (cob Fcopied (lcons (xname 0) lnil))) (sseq (sfor (irange (op1 lenD (xattr 3 (xname 0)))) (tname 2) (sseq (sunp [4, 5] (xsub (xattr 3 (xname 0)) (bname 2))) (sseq (sset 3 (cfrz (xlam 0 Fretargeted (xname 5)))) (sseq (sputOb 1 (xname 2) (xlist (lcons (op1 listD (bname 4)) (lcons (xcall Fplain_switch (lcons (xname 3) lnil)) lnil)))) snil)))) (sfrz 1 (sseq (sret (xname 1)) snil))))
noncomputable def Fthreaded := fdef 1 5 fthreaded
theorem dthreaded {c : Cx} (k : Cfg c) : FS c 4 120 Fthreaded := by
  have ok := k.ok
  have hK := k.hK
  have hC := k.hC
  have bc := k.bc
  have lo := k.lo
  obtain ⟨oI, fi, bb⟩ := k.fi
  have nd : (["body", "found", "number", "told", "statements", "terminator"] : List Str).Nodup := nodup_of rfl
  obtain ⟨o, fa⟩ := at120 hK
  refine FS.ofAt (n := 4) (nm := ["body", "found", "number", "told", "statements", "terminator"]) (wr := []) ok fa (sig_of rfl) (by decide) fun {A env} R hsc hq hcode => ?_
  have hq' : env.qual ++ "<lambda>" = c.lqual := by
    rw [hq]; obtain ⟨p, w, h, q, os, e⟩ := k.eq; subst e; rfl
  have hcode' : env.code = .ref c.cT := by
    rw [hcode]; obtain ⟨p, w, h, q, os, e⟩ := k.eq; subst e; rfl
  obtain ⟨p, w, h, q, os, e⟩ := k.eq
  subst e
  exact SSsAt.cons (SS.at (SS.assign nd (SC.call ok (ncopied hK) (dcopied k) (by decide) (SL.cons (SX.name (i := 0) rfl) SL.nil)) rfl (st_loc rfl)) R hsc)
    (SSsAt.cons (SSAt.fors R hsc (SI.range ok (g_range hK) (SX.bi1 ok (g_len hK) op_len (SX.toB (SX.attr (k := 3) ok (SX.name (i := 0) rfl) rfl)))) (STg.name nd rfl (st_loc rfl)) (SSsAt.cons (SS.at (SS.unp nd (NamesAt.cons rfl (st_loc rfl) (NamesAt.cons rfl (st_loc rfl) NamesAt.nil)) (SX.sub (SX.toB (SX.attr (k := 3) ok (SX.name (i := 0) rfl) rfl)) (SB.name (i := 2) rfl)) (by intro _; rfl) (by intro env h; cases env; subst h; rfl)) R hsc) (SSsAt.cons (SSAt.lam nd ok lo (nretargeted hK) (dretargeted k) (by decide) (SX.name (i := 5) rfl) rfl (lk_eq rfl) rfl (st_loc rfl) R hsc hq' hcode') (SSs.at (SSs.cons (SS.putOb ok rfl (SX.name (i := 2) rfl) (SX.list (SL.cons (SX.ty1 ok (g_list hK) op_list (SB.name (i := 4) rfl)) (SL.cons (SX.call ok (nplain_switch hK) (dplain_switch k) (by decide) (SL.cons (SX.name (i := 3) rfl) SL.nil)) SL.nil)))) SSs.nil) R hsc))))
    (SSs.at (SSs.frz (SSs.cons (SS.ret (SX.name (i := 1) rfl)) SSs.nil)) R hsc))
end Mine
end
section
open PySem PySem.Calls PySem.W PyProof.Rows
set_option maxHeartbeats 4000000
set_option linter.unusedVariables false
namespace Mine
noncomputable def fd155 : FdAt 155 := ⟨_, fun _ => ⟨_, _, _, rfl⟩⟩
noncomputable def b155 : BodyOf fd155.1 := ⟨_, rfl⟩
noncomputable def sc155 : ScOf fd155.1 := ⟨⟨_, _, _, _, _⟩, rfl⟩
theorem n_law_take {c : Cx} (hK : c.K = hd.heap_39 c.w.params) : GFn c "_law_take" 155 := by unfold GFn; rw [hK]; exact ⟨rfl, _, _, rfl, rfl⟩
theorem at155 {c : Cx} (hK : c.K = hd.heap_39 c.w.params) : ∃ o, FnAt c 155 o fd155.1 sc155.1 b155.1 ["source", "top"] :=
  ⟨_, by rw [hK]; rfl, rfl, b155.2, sc155.2, rfl, rfl, rfl, ⟨_, _, _, _, rfl, by rw [hK]; rfl, rfl, rfl⟩, args2 fun _ _ => rfl⟩
noncomputable def f_law_take : SF := (sseq (sif (t2 gtI (xsub (bname 0) (xk (.int 0))) (xk (.int 0))) (sseq (sset 2 (cfrz (op2 modD (op1 intD (xsub (bname 0) (xk (.int 0)))) (bname 1))))
  (sseq (ssrc 0 0 (op2 fdivD (xsub (bname 0) (xk (.int 0))) (bname 1)))
  (sseq (sret (xname 2))
  snil))) snil)
  (sseq (ssrc 0 1 (op2 modD (op1 intD (op2 addD (op2 mulD (xsub (bname 0) (xk (.int 1))) (xk (.int 39373))) (xk (.int 7)))) (xk (.int 2147483647))))
  (sseq (sret (op2 modD (op1 intD (op2 fdivD (op2 modD (op1 intD (op2 mulD (xsub (bname 0) (xk (.int 1))) (xsub (bname 0) (xk (.int 1))))) (xk (.int 2147483629))) (xk (.int 32)))) (bname 1)))
  snil)))
noncomputable def F_law_take := fdef 2 1 f_law_take
theorem d_law_take {c : Cx} (k : Cfg c) : FS c 0 155 F_law_take := by
  have ok := k.ok
  have hK := k.hK
  have hC := k.hC
  have bc := k.bc
  have lo := k.lo
  obtain ⟨oI, fi, bb⟩ := k.fi
  have nd : (["source", "top", "drawn"] : List Str).Nodup := nodup_of rfl
  have h : SSs c 0 sc155.1 ["source", "top", "drawn"] [] b155.1 f_law_take := (SSs.cons (SS.ifs (ST.cmp op_gtI (SX.toB (SX.sub (SB.name (i := 0) rfl) (SX.toB SX.kint))) (SX.toB SX.kint)) (SSs.cons (SS.assign nd (SX.toC (SX.binop op_mod (SX.toB (SX.ty1 ok (g_int hK) op_int (SX.toB (SX.sub (SB.name (i := 0) rfl) (SX.toB SX.kint))))) (SB.name (i := 1) rfl))) rfl (st_loc rfl))
  (SSs.cons (SS.src rfl (.inl rfl) (SX.binop op_fdiv (SX.toB (SX.sub (SB.name (i := 0) rfl) (SX.toB SX.kint))) (SB.name (i := 1) rfl)))
  (SSs.cons (SS.ret (SX.name (i := 2) rfl))
  SSs.nil))) SSs.nil)
  (SSs.cons (SS.src rfl (.inr rfl) (SX.binop op_mod (SX.toB (SX.ty1 ok (g_int hK) op_int (SX.toB (SX.binop op_add (SX.toB (SX.binop op_mul (SX.toB (SX.sub (SB.name (i := 0) rfl) (SX.toB SX.kint))) (SX.toB SX.kint))) (SX.toB SX.kint))))) (SX.toB SX.kint)))
  (SSs.cons (SS.ret (SX.binop op_mod (SX.toB (SX.ty1 ok (g_int hK) op_int (SX.toB (SX.binop op_fdiv (SX.toB (SX.binop op_mod (SX.toB (SX.ty1 ok (g_int hK) op_int (SX.toB (SX.binop op_mul (SX.toB (SX.sub (SB.name (i := 0) rfl) (SX.toB SX.kint))) (SX.toB (SX.sub (SB.name (i := 0) rfl) (SX.toB SX.kint))))))) (SX.toB SX.kint))) (SX.toB SX.kint))))) (SB.name (i := 1) rfl)))
  SSs.nil)))
  obtain ⟨o, fa⟩ := at155 hK
  exact FS.of ok fa (sig_of rfl) (by decide) h
noncomputable def fd162 : FdAt 162 := ⟨_, fun _ => ⟨_, _, _, rfl⟩⟩
noncomputable def b162 : BodyOf fd162.1 := ⟨_, rfl⟩
noncomputable def sc162 : ScOf fd162.1 := ⟨⟨_, _, _, _, _⟩, rfl⟩
theorem n_law_one {c : Cx} (hK : c.K = hd.heap_39 c.w.params) : GFn c "_law_one" 162 := by unfold GFn; rw [hK]; exact ⟨rfl, _, _, rfl, rfl⟩
theorem at162 {c : Cx} (hK : c.K = hd.heap_39 c.w.params) : ∃ o, FnAt c 162 o fd162.1 sc162.1 b162.1 ["source", "things"] :=
  ⟨_, by rw [hK]; rfl, rfl, b162.2, sc162.2, rfl, rfl, rfl, ⟨_, _, _, _, rfl, by rw [hK]; rfl, rfl, rfl⟩, args2 fun _ _ => rfl⟩
noncomputable def f_law_one : SF := (sseq (sret (xsub (bname 1) (xcall F_law_take (lcons (xname 0) (lcons (op1 lenD (bname 1)) lnil)))))
  snil)
noncomputable def F_law_one := fdef 2 0 f_law_one
theorem d_law_one {c : Cx} (k : Cfg c) : FS c 1 162 F_law_one := by
  have ok := k.ok
  have hK := k.hK
  have hC := k.hC
  have bc := k.bc
  have lo := k.lo
  obtain ⟨oI, fi, bb⟩ := k.fi
  have nd : (["source", "things"] : List Str).Nodup := nodup_of rfl
  have h : SSs c 1 sc162.1 ["source", "things"] [] b162.1 f_law_one := (SSs.cons (SS.ret (SX.sub (SB.name (i := 1) rfl) (SX.toB (SX.call ok (n_law_take hK) (d_law_take k) (by decide) (SL.cons (SX.name (i := 0) rfl) (SL.cons (SX.bi1 ok (g_len hK) op_len (SB.name (i := 1) rfl)) SL.nil))))))
  SSs.nil)
  obtain ⟨o, fa⟩ := at162 hK
  exact FS.of ok fa (sig_of rfl) (by decide) h
noncomputable def fd167 : FdAt 167 := ⟨_, fun _ => ⟨_, _, _, rfl⟩⟩
noncomputable def b167 : BodyOf fd167.1 := ⟨_, rfl⟩
noncomputable def sc167 : ScOf fd167.1 := ⟨⟨_, _, _, _, _⟩, rfl⟩
theorem n_law_end {c : Cx} (hK : c.K = hd.heap_39 c.w.params) : GFn c "_law_end" 167 := by unfold GFn; rw [hK]; exact ⟨rfl, _, _, rfl, rfl⟩
theorem at167 {c : Cx} (hK : c.K = hd.heap_39 c.w.params) : ∃ o, FnAt c 167 o fd167.1 sc167.1 b167.1 ["word", "goals"] :=
  ⟨_, by rw [hK]; rfl, rfl, b167.2, sc167.2, rfl, rfl, rfl, ⟨_, _, _, _, rfl, by rw [hK]; rfl, rfl, rfl⟩, args2 fun _ _ => rfl⟩
noncomputable def f_law_end : SF := (sseq (sif (t2 eqD (bname 0) (xk (.str "goto"))) (sseq (sret (xtup (lcons (xk (.str "goto")) (lcons (xsub (bname 1) (xk (.int 0))) lnil))))
  snil) snil)
  (sseq (sif (t2 eqD (bname 0) (xk (.str "switch"))) (sseq (sset 2 (cfrz (op1 tupD (xcomp [1] (irange (op2 subD (op1 lenD (bname 1)) (xk (.int 1)))) cbname tt (xtup (lcons (xname 1) (lcons (xsub (bname 0) (bname 1)) lnil)))))))
  (sseq (sret (xtup (lcons (xk (.str "switch")) (lcons (xtup (lcons (xk (.str "copy")) (lcons (xtup (lcons (xk (.int 1)) (lcons (xtup lnil) lnil))) lnil))) (lcons (xname 2) (lcons (xsub (bname 1) (op1 negD (xk (.int 1)))) lnil))))))
  snil)) snil)
  (sseq (sif (t2 eqD (bname 0) (xk (.str "call"))) (sseq (sret (xtup (lcons (xk (.str "call")) (lcons (xtup (lcons (xk (.str "fn")) (lcons (xk (.str "f")) (lcons (xtup lnil) lnil)))) (lcons (xtup lnil) (lcons (xtup (lcons (xk (.int 0)) (lcons (xtup lnil) lnil))) (lcons (xsub (bname 1) (xk (.int 0))) lnil)))))))
  snil) snil)
  (sseq (sif (t2 eqD (bname 0) (xk (.str "drop"))) (sseq (sret (xtup (lcons (xk (.str "drop")) (lcons (xtup (lcons (xk (.int 1)) (lcons (xtup lnil) lnil))) (lcons (xsub (bname 1) (xk (.int 0))) lnil)))))
  snil) snil)
  (sseq (sif (t2 eqD (bname 0) (xk (.str "assert"))) (sseq (sret (xtup (lcons (xk (.str "assert")) (lcons (xtup (lcons (xk (.str "copy")) (lcons (xtup (lcons (xk (.int 1)) (lcons (xtup lnil) lnil))) lnil))) (lcons (xk (.bool true)) (lcons (xk (.str "told")) (lcons (xsub (bname 1) (xk (.int 0))) lnil)))))))
  snil) snil)
  (sseq (sret (xif (t2 eqD (bname 0) (xk (.str "panic"))) (xtup (lcons (xk (.str "panic")) (lcons (xk (.str "told")) lnil))) (xtup (lcons (xname 0) lnil))))
  snil))))))
noncomputable def F_law_end := fdef 2 1 f_law_end
theorem d_law_end {c : Cx} (k : Cfg c) : FS c 0 167 F_law_end := by
  have ok := k.ok
  have hK := k.hK
  have hC := k.hC
  have bc := k.bc
  have lo := k.lo
  obtain ⟨oI, fi, bb⟩ := k.fi
  have nd : (["word", "goals", "rows"] : List Str).Nodup := nodup_of rfl
  have h : SSs c 0 sc167.1 ["word", "goals", "rows"] [] b167.1 f_law_end := (SSs.cons (SS.ifs (ST.cmp op_eq (SB.name (i := 0) rfl) (SX.toB SX.kstr)) (SSs.cons (SS.ret (SX.tup (SL.cons SX.kstr (SL.cons (SX.sub (SB.name (i := 1) rfl) (SX.toB SX.kint)) SL.nil))))
  SSs.nil) SSs.nil)
  (SSs.cons (SS.ifs (ST.cmp op_eq (SB.name (i := 0) rfl) (SX.toB SX.kstr)) (SSs.cons (SS.assign nd (SX.toC (SX.ty1 ok (g_tuple hK) op_tup (SX.toB (SFr.toX ok (SFr.comp (cap := [1]) (xs := ["at"]) (nm' := ["goals", "at"]) (compOk_of rfl rfl) (SI.toB (SI.range ok (g_range hK) (SX.binop op_sub (SX.toB (SX.bi1 ok (g_len hK) op_len (SB.name (i := 1) rfl))) (SX.toB SX.kint)))) (SCb.name (lk_eq rfl)) SIf.nil (SX.tup (SL.cons (SX.name (i := 1) rfl) (SL.cons (SX.sub (SB.name (i := 0) rfl) (SB.name (i := 1) rfl)) SL.nil)))))))) rfl (st_loc rfl))
  (SSs.cons (SS.ret (SX.tup (SL.cons SX.kstr (SL.cons (SX.tup (SL.cons SX.kstr (SL.cons (SX.tup (SL.cons SX.kint (SL.cons (SX.tup SL.nil) SL.nil))) SL.nil))) (SL.cons (SX.name (i := 2) rfl) (SL.cons (SX.sub (SB.name (i := 1) rfl) (SX.toB (SX.unop op_neg (SX.toB SX.kint)))) SL.nil))))))
  SSs.nil)) SSs.nil)
  (SSs.cons (SS.ifs (ST.cmp op_eq (SB.name (i := 0) rfl) (SX.toB SX.kstr)) (SSs.cons (SS.ret (SX.tup (SL.cons SX.kstr (SL.cons (SX.tup (SL.cons SX.kstr (SL.cons SX.kstr (SL.cons (SX.tup SL.nil) SL.nil)))) (SL.cons (SX.tup SL.nil) (SL.cons (SX.tup (SL.cons SX.kint (SL.cons (SX.tup SL.nil) SL.nil))) (SL.cons (SX.sub (SB.name (i := 1) rfl) (SX.toB SX.kint)) SL.nil)))))))
  SSs.nil) SSs.nil)
  (SSs.cons (SS.ifs (ST.cmp op_eq (SB.name (i := 0) rfl) (SX.toB SX.kstr)) (SSs.cons (SS.ret (SX.tup (SL.cons SX.kstr (SL.cons (SX.tup (SL.cons SX.kint (SL.cons (SX.tup SL.nil) SL.nil))) (SL.cons (SX.sub (SB.name (i := 1) rfl) (SX.toB SX.kint)) SL.nil)))))
  SSs.nil) SSs.nil)
  (SSs.cons (SS.ifs (ST.cmp op_eq (SB.name (i := 0) rfl) (SX.toB SX.kstr)) (SSs.cons (SS.ret (SX.tup (SL.cons SX.kstr (SL.cons (SX.tup (SL.cons SX.kstr (SL.cons (SX.tup (SL.cons SX.kint (SL.cons (SX.tup SL.nil) SL.nil))) SL.nil))) (SL.cons SX.kbool (SL.cons SX.kstr (SL.cons (SX.sub (SB.name (i := 1) rfl) (SX.toB SX.kint)) SL.nil)))))))
  SSs.nil) SSs.nil)
  (SSs.cons (SS.ret (SX.ifx (ST.cmp op_eq (SB.name (i := 0) rfl) (SX.toB SX.kstr)) (SX.tup (SL.cons SX.kstr (SL.cons SX.kstr SL.nil))) (SX.tup (SL.cons (SX.name (i := 0) rfl) SL.nil))))
  SSs.nil))))))
  obtain ⟨o, fa⟩ := at167 hK
  exact FS.of ok fa (sig_of rfl) (by decide) h
noncomputable def fd172 : FdAt 172 := ⟨_, fun _ => ⟨_, _, _, rfl⟩⟩
noncomputable def b172 : BodyOf fd172.1 := ⟨_, rfl⟩
noncomputable def sc172 : ScOf fd172.1 := ⟨⟨_, _, _, _, _⟩, rfl⟩
theorem n_law_block {c : Cx} (hK : c.K = hd.heap_39 c.w.params) : GFn c "_law_block" 172 := by unfold GFn; rw [hK]; exact ⟨rfl, _, _, rfl, rfl⟩
theorem at172 {c : Cx} (hK : c.K = hd.heap_39 c.w.params) : ∃ o, FnAt c 172 o fd172.1 sc172.1 b172.1 ["source", "many"] :=
  ⟨_, by rw [hK]; rfl, rfl, b172.2, sc172.2, rfl, rfl, rfl, ⟨_, _, _, _, rfl, by rw [hK]; rfl, rfl, rfl⟩, args2 fun _ _ => rfl⟩
noncomputable def f_law_block : SF := (sseq (sset 2 (cfrz (op2 mulD (xlist (lcons (xtup (lcons (xk (.str "nop")) lnil)) lnil)) (xcall F_law_one (lcons (xname 0) (lcons (xlist (lcons (xk (.int 0)) (lcons (xk (.int 0)) (lcons (xk (.int 1)) (lcons (xk (.int 2)) lnil))))) lnil))))))
  (sseq (sset 3 (cfrz (xlist (lcons (xk (.str "goto")) (lcons (xk (.str "goto")) (lcons (xk (.str "goto")) (lcons (xk (.str "switch")) (lcons (xk (.str "switch")) (lcons (xk (.str "switch")) (lcons (xk (.str "return")) (lcons (xk (.str "call")) (lcons (xk (.str "drop")) (lcons (xk (.str "assert")) (lcons (xk (.str "panic")) lnil))))))))))))))
  (sseq (sunp [4, 5] (xtup (lcons (xcall F_law_one (lcons (xname 0) (lcons (op2 addD (bname 3) (xlist (lcons (xk (.str "unreachable")) lnil))) lnil))) (lcons (xcall F_law_take (lcons (xname 0) (lcons (xname 1) lnil))) lnil))))
  (sseq (sif (t2 eqD (bname 4) (xk (.str "switch"))) (sseq (sset 6 (cown (xcomp [0, 1, 5] (irange (xcall F_law_take (lcons (xname 0) (lcons (xk (.int 4)) lnil)))) cbname tt (xif (t2 gtI (xcall F_law_take (lcons (xname 0) (lcons (xk (.int 3)) lnil))) (xk (.int 0))) (xname 2) (xcall F_law_take (lcons (xname 0) (lcons (xname 1) lnil)))))))
  (sseq (sret (xtup (lcons (xname 2) (lcons (xname 4) (lcons (op1 tupD (op2 addD (bname 6) (xlist (lcons (xcall F_law_one (lcons (xname 0) (lcons (xlist (lcons (xk .none) (lcons (xname 5) (lcons (xcall F_law_take (lcons (xname 0) (lcons (xname 1) lnil))) lnil)))) lnil))) lnil)))) lnil)))))
  snil)) snil)
  (sseq (sif (t2 eqD (bname 4) (xk (.str "call"))) (sseq (sret (xtup (lcons (xname 2) (lcons (xname 4) (lcons (xtup (lcons (xcall F_law_one (lcons (xname 0) (lcons (xlist (lcons (xk .none) (lcons (xname 5) (lcons (xname 5) lnil)))) lnil))) lnil)) lnil)))))
  snil) snil)
  (sseq (sret (xtup (lcons (xname 2) (lcons (xname 4) (lcons (xif (t2 inD (bname 4) (xlist (lcons (xk (.str "goto")) (lcons (xk (.str "drop")) (lcons (xk (.str "assert")) lnil))))) (xtup (lcons (xname 5) lnil)) (xtup lnil)) lnil)))))
  snil))))))
noncomputable def F_law_block := fdef 2 5 f_law_block
theorem d_law_block {c : Cx} (k : Cfg c) : FS c 2 172 F_law_block := by
  have ok := k.ok
  have hK := k.hK
  have hC := k.hC
  have bc := k.bc
  have lo := k.lo
  obtain ⟨oI, fi, bb⟩ := k.fi
  have nd : (["source", "many", "lines", "words", "word", "one", "rows"] : List Str).Nodup := nodup_of rfl
  have h : SSs c 2 sc172.1 ["source", "many", "lines", "words", "word", "one", "rows"] ["one"] b172.1 f_law_block := (SSs.cons (SS.assign nd (SX.toC (SX.binop op_mul (SX.toB (SX.list (SL.cons (SX.tup (SL.cons SX.kstr SL.nil)) SL.nil))) (SX.toB (SX.call ok (n_law_one hK) (d_law_one k) (by decide) (SL.cons (SX.name (i := 0) rfl) (SL.cons (SX.list (SL.cons SX.kint (SL.cons SX.kint (SL.cons SX.kint (SL.cons SX.kint SL.nil))))) SL.nil)))))) rfl (st_loc rfl))
  (SSs.cons (SS.assign nd (SX.toC (SX.list (SL.cons SX.kstr (SL.cons SX.kstr (SL.cons SX.kstr (SL.cons SX.kstr (SL.cons SX.kstr (SL.cons SX.kstr (SL.cons SX.kstr (SL.cons SX.kstr (SL.cons SX.kstr (SL.cons SX.kstr (SL.cons SX.kstr SL.nil))))))))))))) rfl (st_loc rfl))
  (SSs.cons (SS.unp nd (NamesAt.cons rfl (st_loc rfl) (NamesAt.cons rfl (st_cell rfl) NamesAt.nil)) (SX.tup (SL.cons (SX.call ok (n_law_one hK) (d_law_one k) (by decide) (SL.cons (SX.name (i := 0) rfl) (SL.cons (SX.binop op_add (SB.name (i := 3) rfl) (SX.toB (SX.list (SL.cons SX.kstr SL.nil)))) SL.nil))) (SL.cons (SX.call ok (n_law_take hK) (d_law_take k) (by decide) (SL.cons (SX.name (i := 0) rfl) (SL.cons (SX.name (i := 1) rfl) SL.nil))) SL.nil))) (by intro _; rfl) (by intro env h; cases env; subst h; rfl))
  (SSs.cons (SS.ifs (ST.cmp op_eq (SB.name (i := 4) rfl) (SX.toB SX.kstr)) (SSs.cons (SS.assignComp (i := 6) nd ok (cap := [0, 1, 5]) (xs := ["turn"]) (nm' := ["source", "many", "one", "turn"]) (compOk_of rfl rfl) (SI.toB (SI.range ok (g_range hK) (SX.call ok (n_law_take hK) (d_law_take k) (by decide) (SL.cons (SX.name (i := 0) rfl) (SL.cons SX.kint SL.nil))))) (SCb.name (lk_eq rfl)) SIf.nil (SX.ifx (ST.cmp op_gtI (SX.toB (SX.call ok (n_law_take hK) (d_law_take k) (by decide) (SL.cons (SX.name (i := 0) rfl) (SL.cons SX.kint SL.nil)))) (SX.toB SX.kint)) (SX.name (i := 2) rfl) (SX.call ok (n_law_take hK) (d_law_take k) (by decide) (SL.cons (SX.name (i := 0) rfl) (SL.cons (SX.name (i := 1) rfl) SL.nil)))) rfl (st_loc rfl) (by intro env h; cases env; subst h; rfl))
  (SSs.cons (SS.ret (SX.tup (SL.cons (SX.name (i := 2) rfl) (SL.cons (SX.name (i := 4) rfl) (SL.cons (SX.ty1 ok (g_tuple hK) op_tup (SX.toB (SX.binop op_add (SB.name (i := 6) rfl) (SX.toB (SX.list (SL.cons (SX.call ok (n_law_one hK) (d_law_one k) (by decide) (SL.cons (SX.name (i := 0) rfl) (SL.cons (SX.list (SL.cons SX.knone (SL.cons (SX.name (i := 5) rfl) (SL.cons (SX.call ok (n_law_take hK) (d_law_take k) (by decide) (SL.cons (SX.name (i := 0) rfl) (SL.cons (SX.name (i := 1) rfl) SL.nil))) SL.nil)))) SL.nil))) SL.nil)))))) SL.nil)))))
  SSs.nil)) SSs.nil)
  (SSs.cons (SS.ifs (ST.cmp op_eq (SB.name (i := 4) rfl) (SX.toB SX.kstr)) (SSs.cons (SS.ret (SX.tup (SL.cons (SX.name (i := 2) rfl) (SL.cons (SX.name (i := 4) rfl) (SL.cons (SX.tup (SL.cons (SX.call ok (n_law_one hK) (d_law_one k) (by decide) (SL.cons (SX.name (i := 0) rfl) (SL.cons (SX.list (SL.cons SX.knone (SL.cons (SX.name (i := 5) rfl) (SL.cons (SX.name (i := 5) rfl) SL.nil)))) SL.nil))) SL.nil)) SL.nil)))))
  SSs.nil) SSs.nil)
  (SSs.cons (SS.ret (SX.tup (SL.cons (SX.name (i := 2) rfl) (SL.cons (SX.name (i := 4) rfl) (SL.cons (SX.ifx (ST.cmp op_in (SB.name (i := 4) rfl) (SX.toB (SX.list (SL.cons SX.kstr (SL.cons SX.kstr (SL.cons SX.kstr SL.nil)))))) (SX.tup (SL.cons (SX.name (i := 5) rfl) SL.nil)) (SX.tup SL.nil)) SL.nil)))))
  SSs.nil))))))
  obtain ⟨o, fa⟩ := at172 hK
  exact FS.of ok fa (sig_of rfl) (by decide) h
noncomputable def fd177 : FdAt 177 := ⟨_, fun _ => ⟨_, _, _, rfl⟩⟩
noncomputable def b177 : BodyOf fd177.1 := ⟨_, rfl⟩
noncomputable def sc177 : ScOf fd177.1 := ⟨⟨_, _, _, _, _⟩, rfl⟩
theorem n_law_body {c : Cx} (hK : c.K = hd.heap_39 c.w.params) : GFn c "_law_body" 177 := by unfold GFn; rw [hK]; exact ⟨rfl, _, _, rfl, rfl⟩
theorem at177 {c : Cx} (hK : c.K = hd.heap_39 c.w.params) : ∃ o, FnAt c 177 o fd177.1 sc177.1 b177.1 ["scene"] :=
  ⟨_, by rw [hK]; rfl, rfl, b177.2, sc177.2, rfl, rfl, rfl, ⟨_, _, _, _, rfl, by rw [hK]; rfl, rfl, rfl⟩, args1 fun _ => rfl⟩
noncomputable def f_law_body : SF := (sseq (sset 1 (cfrz (xlist (lcons (xtup (lcons (xtup (lcons (xk (.str "tuple")) (lcons (xtup lnil) lnil))) (lcons (xk (.bool true)) (lcons (xk .none) lnil)))) (lcons (xtup (lcons (xtup (lcons (xk (.str "bool")) lnil)) (lcons (xk (.bool true)) (lcons (xk .none) lnil)))) lnil)))))
  (sseq (sret (xbody4 (lcons (xk (.str "f")) (lcons (xk (.int 0)) (lcons (xname 1) (lcons (xcomp [] (ival (xname 0)) (cbtup 3) tt (xlist (lcons (op1 listD (bname 0)) (lcons (xcall F_law_end (lcons (xname 1) (lcons (xname 2) lnil))) lnil)))) lnil))))))
  snil))
noncomputable def F_law_body := fdef 1 1 f_law_body
theorem d_law_body {c : Cx} (k : Cfg c) : FS c 3 177 F_law_body := by
  have ok := k.ok
  have hK := k.hK
  have hC := k.hC
  have bc := k.bc
  have lo := k.lo
  obtain ⟨oI, fi, bb⟩ := k.fi
  have nd : (["scene", "told"] : List Str).Nodup := nodup_of rfl
  have h : SSs c 3 sc177.1 ["scene", "told"] [] b177.1 f_law_body := (SSs.cons (SS.assign nd (SX.toC (SX.list (SL.cons (SX.tup (SL.cons (SX.tup (SL.cons SX.kstr (SL.cons (SX.tup SL.nil) SL.nil))) (SL.cons SX.kbool (SL.cons SX.knone SL.nil)))) (SL.cons (SX.tup (SL.cons (SX.tup (SL.cons SX.kstr SL.nil)) (SL.cons SX.kbool (SL.cons SX.knone SL.nil)))) SL.nil)))) rfl (st_loc rfl))
  (SSs.cons (SS.ret (SX.body4 ok bc (g_list hK) fi bb (n_Body hK hC) (k_Body hK hC) (by decide) (SL.cons SX.kstr (SL.cons SX.kint (SL.cons (SX.name (i := 1) rfl) (SL.cons (SFr.toX ok (SFr.comp (cap := []) (xs := ["lines", "word", "goals"]) (nm' := ["lines", "word", "goals"]) (compOk_of rfl rfl) (SI.toB (SI.val (SX.name (i := 0) rfl))) (SCb.tup (ps := [_, _, _]) rfl rfl (fun x hx => lk_eq (List.all_eq_true.mp (show (List.all _ fun x => lk _ x .local) = true from rfl) x hx)) (nodup_of rfl)) SIf.nil (SX.list (SL.cons (SX.ty1 ok (g_list hK) op_list (SB.name (i := 0) rfl)) (SL.cons (SX.call ok (n_law_end hK) (d_law_end k) (by decide) (SL.cons (SX.name (i := 1) rfl) (SL.cons (SX.name (i := 2) rfl) SL.nil))) SL.nil))))) SL.nil))))))
  SSs.nil))
  obtain ⟨o, fa⟩ := at177 hK
  exact FS.of ok fa (sig_of rfl) (by decide) h
noncomputable def fd184 : FdAt 184 := ⟨_, fun _ => ⟨_, _, _, rfl⟩⟩
noncomputable def b184 : BodyOf fd184.1 := ⟨_, rfl⟩
noncomputable def sc184 : ScOf fd184.1 := ⟨⟨_, _, _, _, _⟩, rfl⟩
theorem n_law_each {c : Cx} (hK : c.K = hd.heap_39 c.w.params) : GFn c "_law_each" 184 := by unfold GFn; rw [hK]; exact ⟨rfl, _, _, rfl, rfl⟩
theorem at184 {c : Cx} (hK : c.K = hd.heap_39 c.w.params) : ∃ o, FnAt c 184 o fd184.1 sc184.1 b184.1 ["goals"] :=
  ⟨_, by rw [hK]; rfl, rfl, b184.2, sc184.2, rfl, rfl, rfl, ⟨_, _, _, _, rfl, by rw [hK]; rfl, rfl, rfl⟩, args1 fun _ => rfl⟩
noncomputable def f_law_each : SF := (sseq (sset 1 (cown (xlist lnil)))
  (sseq (sfor (ival (xname 0)) (tname 2) (sseq (sif (tand (t2 isntD (bname 2) (xk .none)) (t2 ninD (bname 2) (bname 1))) (sseq (sappend 1 (xname 2))
  snil) snil)
  snil))
  (sfrz 1 (sseq (sret (xname 1))
  snil))))
noncomputable def F_law_each := fdef 1 2 f_law_each
theorem d_law_each {c : Cx} (k : Cfg c) : FS c 0 184 F_law_each := by
  have ok := k.ok
  have hK := k.hK
  have hC := k.hC
  have bc := k.bc
  have lo := k.lo
  obtain ⟨oI, fi, bb⟩ := k.fi
  have nd : (["goals", "found", "one"] : List Str).Nodup := nodup_of rfl
  have h : SSs c 0 sc184.1 ["goals", "found", "one"] [] b184.1 f_law_each := (SSs.cons (SS.assign nd (SFr.toC ok (SFr.list SL.nil)) rfl (st_loc rfl))
  (SSs.cons (SS.fors (SI.val (SX.name (i := 0) rfl)) (STg.name nd rfl (st_loc rfl)) (SSs.cons (SS.ifs (ST.and2 (ST.cmp op_isnt (SB.name (i := 2) rfl) (SX.toB SX.knone)) (ST.cmp op_nin (SB.name (i := 2) rfl) (SB.name (i := 1) rfl))) (SSs.cons (SS.append rfl (SX.name (i := 2) rfl))
  SSs.nil) SSs.nil)
  SSs.nil))
  (SSs.frz (SSs.cons (SS.ret (SX.name (i := 1) rfl))
  SSs.nil))))
  obtain ⟨o, fa⟩ := at184 hK
  exact FS.of ok fa (sig_of rfl) (by decide) h
noncomputable def fd191 : FdAt 191 := ⟨_, fun _ => ⟨_, _, _, rfl⟩⟩
noncomputable def b191 : BodyOf fd191.1 := ⟨_, rfl⟩
noncomputable def sc191 : ScOf fd191.1 := ⟨⟨_, _, _, _, _⟩, rfl⟩
theorem n_law_plain {c : Cx} (hK : c.K = hd.heap_39 c.w.params) : GFn c "_law_plain" 191 := by unfold GFn; rw [hK]; exact ⟨rfl, _, _, rfl, rfl⟩
theorem at191 {c : Cx} (hK : c.K = hd.heap_39 c.w.params) : ∃ o, FnAt c 191 o fd191.1 sc191.1 b191.1 ["word", "goals"] :=
  ⟨_, by rw [hK]; rfl, rfl, b191.2, sc191.2, rfl, rfl, rfl, ⟨_, _, _, _, rfl, by rw [hK]; rfl, rfl, rfl⟩, args2 fun _ _ => rfl⟩
noncomputable def f_law_plain : SF := (sseq (sif (tand (t2 eqD (bname 0) (xk (.str "switch"))) (tand (t2 isntD (xsub (bname 1) (op1 negD (xk (.int 1)))) (xk .none)) (t2 eqD (op1 lenD (xcall F_law_each (lcons (xname 1) lnil))) (xk (.int 1))))) (sseq (sret (xcall F_law_end (lcons (xk (.str "goto")) (lcons (xslc (bname 1) (op1 negD (xk (.int 1))) (xk .none)) lnil))))
  snil) snil)
  (sseq (sret (xcall F_law_end (lcons (xname 0) (lcons (xname 1) lnil))))
  snil))
noncomputable def F_law_plain := fdef 2 0 f_law_plain
theorem d_law_plain {c : Cx} (k : Cfg c) : FS c 1 191 F_law_plain := by
  have ok := k.ok
  have hK := k.hK
  have hC := k.hC
  have bc := k.bc
  have lo := k.lo
  obtain ⟨oI, fi, bb⟩ := k.fi
  have nd : (["word", "goals"] : List Str).Nodup := nodup_of rfl
  have h : SSs c 1 sc191.1 ["word", "goals"] [] b191.1 f_law_plain := (SSs.cons (SS.ifs (ST.and3 (ST.cmp op_eq (SB.name (i := 0) rfl) (SX.toB SX.kstr)) (ST.cmp op_isnt (SX.toB (SX.sub (SB.name (i := 1) rfl) (SX.toB (SX.unop op_neg (SX.toB SX.kint))))) (SX.toB SX.knone)) (ST.cmp op_eq (SX.toB (SX.bi1 ok (g_len hK) op_len (SX.toB (SX.call ok (n_law_each hK) (d_law_each k) (by decide) (SL.cons (SX.name (i := 1) rfl) SL.nil))))) (SX.toB SX.kint))) (SSs.cons (SS.ret (SX.call ok (n_law_end hK) (d_law_end k) (by decide) (SL.cons SX.kstr (SL.cons (SX.slc (SB.name (i := 1) rfl) (SPt.som (SX.unop op_neg (SX.toB SX.kint))) SPt.non) SL.nil))))
  SSs.nil) SSs.nil)
  (SSs.cons (SS.ret (SX.call ok (n_law_end hK) (d_law_end k) (by decide) (SL.cons (SX.name (i := 0) rfl) (SL.cons (SX.name (i := 1) rfl) SL.nil))))
  SSs.nil))
  obtain ⟨o, fa⟩ := at191 hK
  exact FS.of ok fa (sig_of rfl) (by decide) h
noncomputable def fd196 : FdAt 196 := ⟨_, fun _ => ⟨_, _, _, rfl⟩⟩
noncomputable def b196 : BodyOf fd196.1 := ⟨_, rfl⟩
noncomputable def sc196 : ScOf fd196.1 := ⟨⟨_, _, _, _, _⟩, rfl⟩
theorem n_law_behind {c : Cx} (hK : c.K = hd.heap_39 c.w.params) : GFn c "_law_behind" 196 := by unfold GFn; rw [hK]; exact ⟨rfl, _, _, rfl, rfl⟩
theorem at196 {c : Cx} (hK : c.K = hd.heap_39 c.w.params) : ∃ o, FnAt c 196 o fd196.1 sc196.1 b196.1 ["scene", "block"] :=
  ⟨_, by rw [hK]; rfl, rfl, b196.2, sc196.2, rfl, rfl, rfl, ⟨_, _, _, _, rfl, by rw [hK]; rfl, rfl, rfl⟩, args2 fun _ _ => rfl⟩
noncomputable def f_law_behind : SF := (sseq (sset 2 (cown (xlist (lcons (xname 1) lnil))))
  (sseq (sfor (irange (op2 mulD (xk (.int 2)) (op1 lenD (bname 0)))) (tname 3) (sseq (sunp [5, 6, 7] (xsub (bname 0) (xsub (bname 2) (op1 negD (xk (.int 1))))))
  (sseq (sappend 2 (xif (tand (t2 eqD (bname 5) (xlist lnil)) (t2 eqD (bname 6) (xk (.str "goto")))) (xsub (bname 7) (xk (.int 0))) (xsub (bname 2) (op1 negD (xk (.int 1))))))
  snil)))
  (sseq (sset 4 (cfrz (xslc (bname 2) (op1 lenD (bname 0)) (xk .none))))
  (sfrz 2 (sseq (sret (xsub (xcomp [4] (ival (xname 2)) cbname (t2 inD (bname 1) (bname 0)) (xname 1)) (xk (.int 0))))
  snil)))))
noncomputable def F_law_behind := fdef 2 6 f_law_behind
theorem d_law_behind {c : Cx} (k : Cfg c) : FS c 0 196 F_law_behind := by
  have ok := k.ok
  have hK := k.hK
  have hC := k.hC
  have bc := k.bc
  have lo := k.lo
  obtain ⟨oI, fi, bb⟩ := k.fi
  have nd : (["scene", "block", "way", "turn", "last", "lines", "word", "goals"] : List Str).Nodup := nodup_of rfl
  have h : SSs c 0 sc196.1 ["scene", "block", "way", "turn", "last", "lines", "word", "goals"] ["last"] b196.1 f_law_behind := (SSs.cons (SS.assign nd (SFr.toC ok (SFr.list (SL.cons (SX.name (i := 1) rfl) SL.nil))) rfl (st_loc rfl))
  (SSs.cons (SS.fors (SI.range ok (g_range hK) (SX.binop op_mul (SX.toB SX.kint) (SX.toB (SX.bi1 ok (g_len hK) op_len (SB.name (i := 0) rfl))))) (STg.name nd rfl (st_loc rfl)) (SSs.cons (SS.unp nd (NamesAt.cons rfl (st_loc rfl) (NamesAt.cons rfl (st_loc rfl) (NamesAt.cons rfl (st_loc rfl) NamesAt.nil))) (SX.sub (SB.name (i := 0) rfl) (SX.toB (SX.sub (SB.name (i := 2) rfl) (SX.toB (SX.unop op_neg (SX.toB SX.kint)))))) (by intro _; rfl) (by intro env h; cases env; subst h; rfl))
  (SSs.cons (SS.append rfl (SX.ifx (ST.and2 (ST.cmp op_eq (SB.name (i := 5) rfl) (SX.toB (SX.list SL.nil))) (ST.cmp op_eq (SB.name (i := 6) rfl) (SX.toB SX.kstr))) (SX.sub (SB.name (i := 7) rfl) (SX.toB SX.kint)) (SX.sub (SB.name (i := 2) rfl) (SX.toB (SX.unop op_neg (SX.toB SX.kint))))))
  SSs.nil)))
  (SSs.cons (SS.assign nd (SX.toC (SX.slc (SB.name (i := 2) rfl) (SPt.som (SX.bi1 ok (g_len hK) op_len (SB.name (i := 0) rfl))) SPt.non)) rfl (st_cell rfl))
  (SSs.frz (SSs.cons (SS.ret (SX.sub (SX.toB (SFr.toX ok (SFr.comp (cap := [4]) (xs := ["one"]) (nm' := ["last", "one"]) (compOk_of rfl rfl) (SI.toB (SI.val (SX.name (i := 2) rfl))) (SCb.name (lk_eq rfl)) (SIf.one (ST.cmp op_in (SB.name (i := 1) rfl) (SB.name (i := 0) rfl))) (SX.name (i := 1) rfl)))) (SX.toB SX.kint)))
  SSs.nil)))))
  obtain ⟨o, fa⟩ := at196 hK
  exact FS.of ok fa (sig_of rfl) (by decide) h
noncomputable def fd201 : FdAt 201 := ⟨_, fun _ => ⟨_, _, _, rfl⟩⟩
noncomputable def b201 : BodyOf fd201.1 := ⟨_, rfl⟩
noncomputable def sc201 : ScOf fd201.1 := ⟨⟨_, _, _, _, _⟩, rfl⟩
theorem n_law_threads_right {c : Cx} (hK : c.K = hd.heap_39 c.w.params) : GFn c "_law_threads_right" 201 := by unfold GFn; rw [hK]; exact ⟨rfl, _, _, rfl, rfl⟩
theorem at201 {c : Cx} (hK : c.K = hd.heap_39 c.w.params) : ∃ o, FnAt c 201 o fd201.1 sc201.1 b201.1 ["scene"] :=
  ⟨_, by rw [hK]; rfl, rfl, b201.2, sc201.2, rfl, rfl, rfl, ⟨_, _, _, _, rfl, by rw [hK]; rfl, rfl, rfl⟩, args1 fun _ => rfl⟩
noncomputable def f_law_threads_right : SF := (sseq (spar [1, 2] (lccons (cfrz (xcall F_law_body (lcons (xname 0) lnil))) (lccons (cown (xlist lnil)) lcnil)))
  (sseq (sfor (ival (xname 0)) (ttup [3, 4, 5]) (sseq (sif (t2 neD (xcall Fplain_switch (lcons (xcall F_law_end (lcons (xname 4) (lcons (xname 5) lnil))) lnil)) (xcall F_law_plain (lcons (xname 4) (lcons (xname 5) lnil)))) (sseq (sret (xk (.bool false)))
  snil) snil)
  (sseq (sset 6 (cfrz (op1 tupD (xcomp [0] (ival (xname 5)) cbname tt (xif (t2 isD (bname 1) (xk .none)) (xk .none) (xcall F_law_behind (lcons (xname 0) (lcons (xname 1) lnil))))))))
  (sseq (sappend 2 (xlist (lcons (xname 3) (lcons (xcall F_law_plain (lcons (xname 4) (lcons (xname 6) lnil))) lnil))))
  snil))))
  (sseq (sret (xand (op2 eqD (xattr 3 (xcall Fthreaded (lcons (xname 1) lnil))) (bname 2)) (op2 eqD (xattr 3 (xname 1)) (xattr 3 (xcall F_law_body (lcons (xname 0) lnil))))))
  snil)))
noncomputable def F_law_threads_right := fdef 1 6 f_law_threads_right
theorem d_law_threads_right {c : Cx} (k : Cfg c) : FS c 5 201 F_law_threads_right := by
  have ok := k.ok
  have hK := k.hK
  have hC := k.hC
  have bc := k.bc
  have lo := k.lo
  obtain ⟨oI, fi, bb⟩ := k.fi
  have nd : (["scene", "body", "due", "lines", "word", "goals", "led"] : List Str).Nodup := nodup_of rfl
  have h : SSs c 5 sc201.1 ["scene", "body", "due", "lines", "word", "goals", "led"] [] b201.1 f_law_threads_right := (SSs.cons (SS.par (xs := ["body", "due"]) (is := [1, 2]) nd rfl (by decide) (par_of rfl) (SLC.cons (SX.toC (SX.call ok (n_law_body hK) (d_law_body k) (by decide) (SL.cons (SX.name (i := 0) rfl) SL.nil))) (SLC.cons (SFr.toC ok (SFr.list SL.nil)) SLC.nil)) (by intro env h; cases env; subst h; rfl))
  (SSs.cons (SS.fors (SI.val (SX.name (i := 0) rfl)) (STg.tup nd (NamesAt.cons rfl (st_loc rfl) (NamesAt.cons rfl (st_loc rfl) (NamesAt.cons rfl (st_loc rfl) NamesAt.nil)))) (SSs.cons (SS.ifs (ST.cmp op_ne (SX.toB (SX.call ok (nplain_switch hK) (dplain_switch k) (by decide) (SL.cons (SX.call ok (n_law_end hK) (d_law_end k) (by decide) (SL.cons (SX.name (i := 4) rfl) (SL.cons (SX.name (i := 5) rfl) SL.nil))) SL.nil))) (SX.toB (SX.call ok (n_law_plain hK) (d_law_plain k) (by decide) (SL.cons (SX.name (i := 4) rfl) (SL.cons (SX.name (i := 5) rfl) SL.nil))))) (SSs.cons (SS.ret SX.kbool)
  SSs.nil) SSs.nil)
  (SSs.cons (SS.assign nd (SX.toC (SX.ty1 ok (g_tuple hK) op_tup (SX.toB (SFr.toX ok (SFr.comp (cap := [0]) (xs := ["one"]) (nm' := ["scene", "one"]) (compOk_of rfl rfl) (SI.toB (SI.val (SX.name (i := 5) rfl))) (SCb.name (lk_eq rfl)) SIf.nil (SX.ifx (ST.cmp op_is (SB.name (i := 1) rfl) (SX.toB SX.knone)) SX.knone (SX.call ok (n_law_behind hK) (d_law_behind k) (by decide) (SL.cons (SX.name (i := 0) rfl) (SL.cons (SX.name (i := 1) rfl) SL.nil))))))))) rfl (st_loc rfl))
  (SSs.cons (SS.append rfl (SX.list (SL.cons (SX.name (i := 3) rfl) (SL.cons (SX.call ok (n_law_plain hK) (d_law_plain k) (by decide) (SL.cons (SX.name (i := 4) rfl) (SL.cons (SX.name (i := 6) rfl) SL.nil))) SL.nil))))
  SSs.nil))))
  (SSs.cons (SS.ret (SX.and2 (SX.cmp op_eq (SX.toB (SX.attr (k := 3) ok (SX.call ok (nthreaded hK) (dthreaded k) (by decide) (SL.cons (SX.name (i := 1) rfl) SL.nil)) rfl)) (SB.name (i := 2) rfl)) (SX.cmp op_eq (SX.toB (SX.attr (k := 3) ok (SX.name (i := 1) rfl) rfl)) (SX.toB (SX.attr (k := 3) ok (SX.call ok (n_law_body hK) (d_law_body k) (by decide) (SL.cons (SX.name (i := 0) rfl) SL.nil)) rfl)))))
  SSs.nil)))
  obtain ⟨o, fa⟩ := at201 hK
  exact FS.of ok fa (sig_of rfl) (by decide) h
noncomputable def fd206 : FdAt 206 := ⟨_, fun _ => ⟨_, _, _, rfl⟩⟩
noncomputable def b206 : BodyOf fd206.1 := ⟨_, rfl⟩
noncomputable def sc206 : ScOf fd206.1 := ⟨⟨_, _, _, _, _⟩, rfl⟩
theorem n_law_ways_right {c : Cx} (hK : c.K = hd.heap_39 c.w.params) : GFn c "_law_ways_right" 206 := by unfold GFn; rw [hK]; exact ⟨rfl, _, _, rfl, rfl⟩
theorem at206 {c : Cx} (hK : c.K = hd.heap_39 c.w.params) : ∃ o, FnAt c 206 o fd206.1 sc206.1 b206.1 ["scene", "some"] :=
  ⟨_, by rw [hK]; rfl, rfl, b206.2, sc206.2, rfl, rfl, rfl, ⟨_, _, _, _, rfl, by rw [hK]; rfl, rfl, rfl⟩, args2 fun _ _ => rfl⟩
noncomputable def f_law_ways_right : SF := (sseq (sset 2 (cown xd0))
  (sseq (sfor (irange (op1 lenD (bname 0))) (tname 3) (sseq (sset 4 (cfrz (op2 addD (op1 lenD (xcomp [0, 3] (ival (xname 1)) cbname (t2 inD (bname 1) (xsub (xsub (bname 0) (bname 2)) (xk (.int 2)))) (xname 2))) (op1 intD (op2 eqD (bname 3) (xk (.int 0)))))))
  (sseq (sif (t2 gtI (bname 4) (xk (.int 0))) (sseq (sput 2 (xname 3) (xname 4))
  snil) snil)
  snil)))
  (sseq (sret (op2 deqD (xcall Fways_into (lcons (xcall F_law_body (lcons (xname 0) lnil)) (lcons (xname 1) lnil))) (bname 2)))
  snil)))
noncomputable def F_law_ways_right := fdef 2 3 f_law_ways_right
theorem d_law_ways_right {c : Cx} (k : Cfg c) : FS c 4 206 F_law_ways_right := by
  have ok := k.ok
  have hK := k.hK
  have hC := k.hC
  have bc := k.bc
  have lo := k.lo
  obtain ⟨oI, fi, bb⟩ := k.fi
  have nd : (["scene", "some", "due", "block", "ways"] : List Str).Nodup := nodup_of rfl
  have h : SSs c 4 sc206.1 ["scene", "some", "due", "block", "ways"] ["block"] b206.1 f_law_ways_right := (SSs.cons (SS.assign nd (SFr.toC ok SFr.dict0) rfl (st_loc rfl))
  (SSs.cons (SS.fors (SI.range ok (g_range hK) (SX.bi1 ok (g_len hK) op_len (SB.name (i := 0) rfl))) (STg.name nd rfl (st_cell rfl)) (SSs.cons (SS.assign nd (SX.toC (SX.binop op_add (SX.toB (SX.bi1 ok (g_len hK) op_len (SX.toB (SFr.toX ok (SFr.comp (cap := [0, 3]) (xs := ["one"]) (nm' := ["scene", "block", "one"]) (compOk_of rfl rfl) (SI.toB (SI.val (SX.name (i := 1) rfl))) (SCb.name (lk_eq rfl)) (SIf.one (ST.cmp op_in (SB.name (i := 1) rfl) (SX.toB (SX.sub (SX.toB (SX.sub (SB.name (i := 0) rfl) (SB.name (i := 2) rfl))) (SX.toB SX.kint))))) (SX.name (i := 2) rfl)))))) (SX.toB (SX.ty1 ok (g_int hK) op_int (SX.toB (SX.cmp op_eq (SB.name (i := 3) rfl) (SX.toB SX.kint))))))) rfl (st_loc rfl))
  (SSs.cons (SS.ifs (ST.cmp op_gtI (SB.name (i := 4) rfl) (SX.toB SX.kint)) (SSs.cons (SS.put rfl (SX.name (i := 3) rfl) (SX.name (i := 4) rfl))
  SSs.nil) SSs.nil)
  SSs.nil)))
  (SSs.cons (SS.ret (SX.cmp op_deq (SX.toB (SX.call ok (nways_into hK) (dways_into k) (by decide) (SL.cons (SX.call ok (n_law_body hK) (d_law_body k) (by decide) (SL.cons (SX.name (i := 0) rfl) SL.nil)) (SL.cons (SX.name (i := 1) rfl) SL.nil)))) (SB.name (i := 2) rfl)))
  SSs.nil)))
  obtain ⟨o, fa⟩ := at206 hK
  exact FS.of ok fa (sig_of rfl) (by decide) h
noncomputable def fd211 : FdAt 211 := ⟨_, fun _ => ⟨_, _, _, rfl⟩⟩
noncomputable def b211 : BodyOf fd211.1 := ⟨_, rfl⟩
noncomputable def sc211 : ScOf fd211.1 := ⟨⟨_, _, _, _, _⟩, rfl⟩
theorem n_law_met {c : Cx} (hK : c.K = hd.heap_39 c.w.params) : GFn c "_law_met" 211 := by unfold GFn; rw [hK]; exact ⟨rfl, _, _, rfl, rfl⟩
theorem at211 {c : Cx} (hK : c.K = hd.heap_39 c.w.params) : ∃ o, FnAt c 211 o fd211.1 sc211.1 b211.1 ["scene"] :=
  ⟨_, by rw [hK]; rfl, rfl, b211.2, sc211.2, rfl, rfl, rfl, ⟨_, _, _, _, rfl, by rw [hK]; rfl, rfl, rfl⟩, args1 fun _ => rfl⟩
noncomputable def f_law_met : SF := (sseq (sset 1 (cown (xd1 (xk (.int 0)) (xtup lnil))))
  (sseq (sfor (irange (op1 lenD (bname 0))) (tname 2) (sseq (sfor (ival (op1 sortKD (bname 1))) (tname 3) (sseq (sforE (ienum (xcall F_law_each (lcons (xsub (xsub (bname 0) (bname 3)) (xk (.int 2))) lnil))) (ttup [4, 5]) (sseq (sset 6 (cfrz (op2 addD (xsub (bname 1) (bname 3)) (xtup (lcons (xname 4) lnil)))))
  (sseq (sif (tor (t2 ninD (bname 5) (bname 1)) (t2 ltT (xtup (lcons (op1 lenD (bname 6)) (lcons (xname 6) lnil))) (xtup (lcons (op1 lenD (xsub (bname 1) (bname 5))) (lcons (xsub (bname 1) (bname 5)) lnil))))) (sseq (sput 1 (xname 5) (xname 6))
  snil) snil)
  snil)))
  snil))
  snil))
  (sseq (sret (xcomp [] (ival (op1 sortTD (xcomp [1] (ikeys (bname 1)) cbname tt (xtup (lcons (op1 lenD (xsub (bname 0) (bname 1))) (lcons (xsub (bname 0) (bname 1)) (lcons (xname 1) lnil))))))) cbname tt (xsub (bname 0) (xk (.int 2)))))
  snil)))
noncomputable def F_law_met := fdef 1 6 f_law_met
theorem d_law_met {c : Cx} (k : Cfg c) : FS c 1 211 F_law_met := by
  have ok := k.ok
  have hK := k.hK
  have hC := k.hC
  have bc := k.bc
  have lo := k.lo
  obtain ⟨oI, fi, bb⟩ := k.fi
  have nd : (["scene", "ways", "turn", "block", "at", "goal", "way"] : List Str).Nodup := nodup_of rfl
  have h : SSs c 1 sc211.1 ["scene", "ways", "turn", "block", "at", "goal", "way"] ["ways"] b211.1 f_law_met := (SSs.cons (SS.assign nd (SFr.toC ok (SFr.dict1 SX.kint (SX.tup SL.nil))) rfl (st_cell rfl))
  (SSs.cons (SS.fors (SI.range ok (g_range hK) (SX.bi1 ok (g_len hK) op_len (SB.name (i := 0) rfl))) (STg.name nd rfl (st_loc rfl)) (SSs.cons (SS.fors (SI.val (SX.bi1 ok (g_sorted hK) op_sortK (SB.name (i := 1) rfl))) (STg.name nd rfl (st_loc rfl)) (SSs.cons (SS.forsE (SIE.enum ok (g_enumerate hK) (SX.call ok (n_law_each hK) (d_law_each k) (by decide) (SL.cons (SX.sub (SX.toB (SX.sub (SB.name (i := 0) rfl) (SB.name (i := 3) rfl))) (SX.toB SX.kint)) SL.nil))) (STg.tup nd (NamesAt.cons rfl (st_loc rfl) (NamesAt.cons rfl (st_loc rfl) NamesAt.nil))) (SSs.cons (SS.assign nd (SX.toC (SX.binop op_add (SX.toB (SX.sub (SB.name (i := 1) rfl) (SB.name (i := 3) rfl))) (SX.toB (SX.tup (SL.cons (SX.name (i := 4) rfl) SL.nil))))) rfl (st_loc rfl))
  (SSs.cons (SS.ifs (ST.or2 (ST.cmp op_nin (SB.name (i := 5) rfl) (SB.name (i := 1) rfl)) (ST.cmp op_lt (SX.toB (SX.tup (SL.cons (SX.bi1 ok (g_len hK) op_len (SB.name (i := 6) rfl)) (SL.cons (SX.name (i := 6) rfl) SL.nil)))) (SX.toB (SX.tup (SL.cons (SX.bi1 ok (g_len hK) op_len (SX.toB (SX.sub (SB.name (i := 1) rfl) (SB.name (i := 5) rfl)))) (SL.cons (SX.sub (SB.name (i := 1) rfl) (SB.name (i := 5) rfl)) SL.nil)))))) (SSs.cons (SS.put rfl (SX.name (i := 5) rfl) (SX.name (i := 6) rfl))
  SSs.nil) SSs.nil)
  SSs.nil)))
  SSs.nil))
  SSs.nil))
  (SSs.cons (SS.ret (SFr.toX ok (SFr.comp (cap := []) (xs := ["row"]) (nm' := ["row"]) (compOk_of rfl rfl) (SI.toB (SI.val (SX.bi1 ok (g_sorted hK) op_sortT (SX.toB (SFr.toX ok (SFr.comp (cap := [1]) (xs := ["block"]) (nm' := ["ways", "block"]) (compOk_of rfl rfl) (SIB.keys (SB.name (i := 1) rfl)) (SCb.name (lk_eq rfl)) SIf.nil (SX.tup (SL.cons (SX.bi1 ok (g_len hK) op_len (SX.toB (SX.sub (SB.name (i := 0) rfl) (SB.name (i := 1) rfl)))) (SL.cons (SX.sub (SB.name (i := 0) rfl) (SB.name (i := 1) rfl)) (SL.cons (SX.name (i := 1) rfl) SL.nil)))))))))) (SCb.name (lk_eq rfl)) SIf.nil (SX.sub (SB.name (i := 0) rfl) (SX.toB SX.kint)))))
  SSs.nil)))
  obtain ⟨o, fa⟩ := at211 hK
  exact FS.of ok fa (sig_of rfl) (by decide) h
noncomputable def fd216 : FdAt 216 := ⟨_, fun _ => ⟨_, _, _, rfl⟩⟩
noncomputable def b216 : BodyOf fd216.1 := ⟨_, rfl⟩
noncomputable def sc216 : ScOf fd216.1 := ⟨⟨_, _, _, _, _⟩, rfl⟩
theorem n_law_rows {c : Cx} (hK : c.K = hd.heap_39 c.w.params) : GFn c "_law_rows" 216 := by unfold GFn; rw [hK]; exact ⟨rfl, _, _, rfl, rfl⟩
theorem at216 {c : Cx} (hK : c.K = hd.heap_39 c.w.params) : ∃ o, FnAt c 216 o fd216.1 sc216.1 b216.1 ["scene", "met"] :=
  ⟨_, by rw [hK]; rfl, rfl, b216.2, sc216.2, rfl, rfl, rfl, ⟨_, _, _, _, rfl, by rw [hK]; rfl, rfl, rfl⟩, args2 fun _ _ => rfl⟩
noncomputable def f_law_rows : SF := (sseq (sset 2 (cown xd0))
  (sseq (sfor (ival (xname 1)) (tname 3) (sseq (sunp [6, 7, 8] (xsub (bname 0) (bname 3)))
  (sseq (sif (tand (t2 eqD (bname 7) (xk (.str "goto"))) (tand (t2 neD (xsub (bname 8) (xk (.int 0))) (xk (.int 0))) (t2 eqD (xcomp [0, 8] (ival (xname 1)) cbname (t2 inD (xsub (bname 1) (xk (.int 0))) (xsub (xsub (bname 0) (bname 2)) (xk (.int 2)))) (xname 2)) (xlist (lcons (xname 3) lnil))))) (sseq (sput 2 (xname 3) (xsub (bname 8) (xk (.int 0))))
  snil) snil)
  snil)))
  (sseq (spar [4, 5] (lccons (cfrz (xcomp [2] (ival (op1 sortKD (bname 2))) cbname tt (xsub (bname 0) (bname 1)))) (lccons (cown (xlist lnil)) lcnil)))
  (sseq (sfor (ival (xname 1)) (tname 3) (sseq (sif (t2 ninD (bname 3) (bname 4)) (sseq (sset 9 (cown (xlist (lcons (xname 3) lnil))))
  (sseq (sfor (irange (op1 lenD (bname 0))) (tname 10) (sseq (sif (t2 inD (xsub (bname 9) (op1 negD (xk (.int 1)))) (bname 2)) (sseq (sappend 9 (xsub (bname 2) (xsub (bname 9) (op1 negD (xk (.int 1))))))
  snil) snil)
  snil))
  (sfrz 9 (sseq (sappend 5 (xname 9))
  snil)))) snil)
  snil))
  (sfrz 5 (sseq (sret (xname 5))
  snil))))))
noncomputable def F_law_rows := fdef 2 9 f_law_rows
theorem d_law_rows {c : Cx} (k : Cfg c) : FS c 0 216 F_law_rows := by
  have ok := k.ok
  have hK := k.hK
  have hC := k.hC
  have bc := k.bc
  have lo := k.lo
  obtain ⟨oI, fi, bb⟩ := k.fi
  have nd : (["scene", "met", "behind", "block", "seconds", "rows", "lines", "word", "goals", "row", "turn"] : List Str).Nodup := nodup_of rfl
  have h : SSs c 0 sc216.1 ["scene", "met", "behind", "block", "seconds", "rows", "lines", "word", "goals", "row", "turn"] ["behind", "goals"] b216.1 f_law_rows := (SSs.cons (SS.assign nd (SFr.toC ok SFr.dict0) rfl (st_cell rfl))
  (SSs.cons (SS.fors (SI.val (SX.name (i := 1) rfl)) (STg.name nd rfl (st_loc rfl)) (SSs.cons (SS.unp nd (NamesAt.cons rfl (st_loc rfl) (NamesAt.cons rfl (st_loc rfl) (NamesAt.cons rfl (st_cell rfl) NamesAt.nil))) (SX.sub (SB.name (i := 0) rfl) (SB.name (i := 3) rfl)) (by intro _; rfl) (by intro env h; cases env; subst h; rfl))
  (SSs.cons (SS.ifs (ST.and3 (ST.cmp op_eq (SB.name (i := 7) rfl) (SX.toB SX.kstr)) (ST.cmp op_ne (SX.toB (SX.sub (SB.name (i := 8) rfl) (SX.toB SX.kint))) (SX.toB SX.kint)) (ST.cmp op_eq (SX.toB (SFr.toX ok (SFr.comp (cap := [0, 8]) (xs := ["one"]) (nm' := ["scene", "goals", "one"]) (compOk_of rfl rfl) (SI.toB (SI.val (SX.name (i := 1) rfl))) (SCb.name (lk_eq rfl)) (SIf.one (ST.cmp op_in (SX.toB (SX.sub (SB.name (i := 1) rfl) (SX.toB SX.kint))) (SX.toB (SX.sub (SX.toB (SX.sub (SB.name (i := 0) rfl) (SB.name (i := 2) rfl))) (SX.toB SX.kint))))) (SX.name (i := 2) rfl)))) (SX.toB (SX.list (SL.cons (SX.name (i := 3) rfl) SL.nil))))) (SSs.cons (SS.put rfl (SX.name (i := 3) rfl) (SX.sub (SB.name (i := 8) rfl) (SX.toB SX.kint)))
  SSs.nil) SSs.nil)
  SSs.nil)))
  (SSs.cons (SS.par (xs := ["seconds", "rows"]) (is := [4, 5]) nd rfl (by decide) (par_of rfl) (SLC.cons (SX.toC (SFr.toX ok (SFr.comp (cap := [2]) (xs := ["block"]) (nm' := ["behind", "block"]) (compOk_of rfl rfl) (SI.toB (SI.val (SX.bi1 ok (g_sorted hK) op_sortK (SB.name (i := 2) rfl)))) (SCb.name (lk_eq rfl)) SIf.nil (SX.sub (SB.name (i := 0) rfl) (SB.name (i := 1) rfl))))) (SLC.cons (SFr.toC ok (SFr.list SL.nil)) SLC.nil)) (by intro env h; cases env; subst h; rfl))
  (SSs.cons (SS.fors (SI.val (SX.name (i := 1) rfl)) (STg.name nd rfl (st_loc rfl)) (SSs.cons (SS.ifs (ST.cmp op_nin (SB.name (i := 3) rfl) (SB.name (i := 4) rfl)) (SSs.cons (SS.assign nd (SFr.toC ok (SFr.list (SL.cons (SX.name (i := 3) rfl) SL.nil))) rfl (st_loc rfl))
  (SSs.cons (SS.fors (SI.range ok (g_range hK) (SX.bi1 ok (g_len hK) op_len (SB.name (i := 0) rfl))) (STg.name nd rfl (st_loc rfl)) (SSs.cons (SS.ifs (ST.cmp op_in (SX.toB (SX.sub (SB.name (i := 9) rfl) (SX.toB (SX.unop op_neg (SX.toB SX.kint))))) (SB.name (i := 2) rfl)) (SSs.cons (SS.append rfl (SX.sub (SB.name (i := 2) rfl) (SX.toB (SX.sub (SB.name (i := 9) rfl) (SX.toB (SX.unop op_neg (SX.toB SX.kint)))))))
  SSs.nil) SSs.nil)
  SSs.nil))
  (SSs.frz (SSs.cons (SS.append rfl (SX.name (i := 9) rfl))
  SSs.nil)))) SSs.nil)
  SSs.nil))
  (SSs.frz (SSs.cons (SS.ret (SX.name (i := 5) rfl))
  SSs.nil))))))
  obtain ⟨o, fa⟩ := at216 hK
  exact FS.of ok fa (sig_of rfl) (by decide) h
end Mine
end
section
open PySem PySem.Calls PySem.W PyProof.Rows
set_option maxHeartbeats 4000000
set_option linter.unusedVariables false
namespace Mine
/-- statements ahead of others -/
noncomputable def SSp (c : Cx) (n : Nat) (sc : Scope) (nm wr : List Str) (pre : List Stmt) (f : SF) : Prop :=
  ∀ ⦃A env g z s ρ ad σ ρ' σ'⦄ ⦃rest : List Stmt⦄ ⦃Q : Flow → Shared → Prop⦄ ⦃E : Value → Shared → Prop⦄, Room A n → env.scope = sc → SSt c g wr z env s nm ρ ad σ → f ρ σ = some (.next, ρ', σ') →
    (∀ s' z' ad', SPost c g z z' → SSt c g wr z' env s' nm ρ' ad' σ' → wpAny (model c.prog c.w) A (execs rest env) Q E s') → wpAny (model c.prog c.w) A (execs (pre ++ rest) env) Q E s
theorem SSp.nil {c : Cx} {n : Nat} {sc : Scope} {nm wr : List Str} : SSp c n sc nm wr [] snil := by
  intro A env g z s ρ ad σ ρ' σ' rest Q E R hs T hf k
  cases hf
  exact k s z ad .refl T
theorem SSp.cons {c : Cx} {n : Nat} {sc : Scope} {nm wr : List Str} {st : Stmt} {pre : List Stmt} {f h : SF} (h1 : SS c n sc nm wr st f) (h2 : SSp c n sc nm wr pre h) : SSp c n sc nm wr (st :: pre) (sseq f h) := by
  intro A env g z s ρ ad σ ρ' σ' rest Q E R hs T hf k
  unfold sseq at hf
  cases hf1 : f ρ σ with
  | none => rw [hf1] at hf; cases hf
  | some y =>
    obtain ⟨fl₁, ρ₁, σ₁⟩ := y
    rw [hf1] at hf
    cases fl₁ with
    | next =>
      refine wpAny_execs_cons (wpAny_mono (h1 R hs T hf1) (fun w s₁ hmm => ?_) fun _ _ x => x.elim)
      refine gen ?_; intro GG kGG
      obtain ⟨z₁, ad₁, p, T₁, r⟩ := hmm
      cases r
      refine kGG ?_; clear kGG
      exact h2 R hs T₁ hf fun s' z' ad' p' T' => k s' z' ad' (p.trans p') T'
    | _ => cases hf
noncomputable def fd148 : FdAt 148 := ⟨_, fun _ => ⟨_, _, _, rfl⟩⟩
noncomputable def b148 : BodyOf fd148.1 := ⟨_, rfl⟩
noncomputable def sc148 : ScOf fd148.1 := ⟨⟨_, _, _, _, _⟩, rfl⟩
theorem n_law_pool {c : Cx} (hK : c.K = hd.heap_39 c.w.params) : GFn c "_law_pool" 148 := by unfold GFn; rw [hK]; exact ⟨rfl, _, _, rfl, rfl⟩
theorem at148 {c : Cx} (hK : c.K = hd.heap_39 c.w.params) : ∃ o, FnAt c 148 o fd148.1 sc148.1 b148.1 ["script", "k"] :=
  ⟨_, by rw [hK]; rfl, rfl, b148.2, sc148.2, rfl, rfl, rfl, ⟨_, _, _, _, rfl, by rw [hK]; rfl, rfl, rfl⟩, args2 fun _ _ => rfl⟩
noncomputable def f_pool : EX := (nseq (sset 2 (cfrz (xk (.int 0))))
  (nseq (sif (t2 ltI (bname 1) (op1 lenD (bname 0))) (sseq (sset 2 (cfrz (xsub (bname 0) (bname 1))))
  snil) snil)
  (nseq (sset 3 (cfrz (xmax (op1 intD (bname 2)) (op1 intD (op2 subD (op1 negD (xk (.int 1))) (bname 2))))))
  (nseq (sset 4 (cfrz (op2 modD (op1 intD (op2 mulD (op2 addD (op2 addD (op2 addD (op2 modD (op1 intD (bname 3)) (xk (.int 2147483629))) (op2 mulD (op2 mulD (xk (.int 7919)) (bname 1)) (bname 1))) (op2 mulD (xk (.int 31)) (bname 1))) (xk (.int 17))) (xk (.int 48271)))) (xk (.int 2147483647)))))
  (xlist (lcons (op2 mulD (bname 3) (op1 intD (op2 geI (bname 3) (op2 powD (xk (.int 10)) (xk (.int 18)))))) (lcons (xname 4) lnil)))))))
noncomputable def F_law_pool := fdefn 2 3 f_pool
theorem d_law_pool {c : Cx} (k : Cfg c) : FSF c 0 148 F_law_pool := by
  have ok := k.ok
  have hK := k.hK
  have hC := k.hC
  have bc := k.bc
  have lo := k.lo
  obtain ⟨oI, fi, bb⟩ := k.fi
  have nd : (["script", "k", "cell", "big", "mixed"] : List Str).Nodup := nodup_of rfl
  have h : SSn c 0 sc148.1 ["script", "k", "cell", "big", "mixed"] [] b148.1 f_pool := (SSn.cons (SS.assign nd (SX.toC SX.kint) rfl (st_loc rfl))
  (SSn.cons (SS.ifs (ST.cmp op_ltI (SB.name (i := 1) rfl) (SX.toB (SX.bi1 ok (g_len hK) op_len (SB.name (i := 0) rfl)))) (SSs.cons (SS.assign nd (SX.toC (SX.sub (SB.name (i := 0) rfl) (SB.name (i := 1) rfl))) rfl (st_loc rfl))
  SSs.nil) SSs.nil)
  (SSn.cons (SS.assign nd (SX.toC (SX.max2 ok (g_max hK) (SX.ty1 ok (g_int hK) op_int (SB.name (i := 2) rfl)) (SX.ty1 ok (g_int hK) op_int (SX.toB (SX.binop op_sub (SX.toB (SX.unop op_neg (SX.toB SX.kint))) (SB.name (i := 2) rfl)))))) rfl (st_loc rfl))
  (SSn.cons (SS.assign nd (SX.toC (SX.binop op_mod (SX.toB (SX.ty1 ok (g_int hK) op_int (SX.toB (SX.binop op_mul (SX.toB (SX.binop op_add (SX.toB (SX.binop op_add (SX.toB (SX.binop op_add (SX.toB (SX.binop op_mod (SX.toB (SX.ty1 ok (g_int hK) op_int (SB.name (i := 3) rfl))) (SX.toB SX.kint))) (SX.toB (SX.binop op_mul (SX.toB (SX.binop op_mul (SX.toB SX.kint) (SB.name (i := 1) rfl))) (SB.name (i := 1) rfl))))) (SX.toB (SX.binop op_mul (SX.toB SX.kint) (SB.name (i := 1) rfl))))) (SX.toB SX.kint))) (SX.toB SX.kint))))) (SX.toB SX.kint))) rfl (st_loc rfl))
  (SSn.last ok (SFr.list (SL.cons (SX.binop op_mul (SB.name (i := 3) rfl) (SX.toB (SX.ty1 ok (g_int hK) op_int (SX.toB (SX.cmp op_geI (SB.name (i := 3) rfl) (SX.toB (SX.binop op_pow (SX.toB SX.kint) (SX.toB SX.kint)))))))) (SL.cons (SX.name (i := 4) rfl) SL.nil))))))))
  obtain ⟨o, fa⟩ := at148 hK
  exact FSF.of ok fa (sig_of rfl) (by decide) h
noncomputable def fd221 : FdAt 221 := ⟨_, fun _ => ⟨_, _, _, rfl⟩⟩
noncomputable def b221 : BodyOf fd221.1 := ⟨_, rfl⟩
noncomputable def sc221 : ScOf fd221.1 := ⟨⟨_, _, _, _, _⟩, rfl⟩
noncomputable def nmL : List Str := ["script", "told", "source", "many", "scene", "some", "body", "met"]
noncomputable def wrL : List Str := ["source", "many"]
noncomputable def fLaw1 : SF := (sseq (sset 1 (cfrz (xtup (lcons (xk (.str "copy")) (lcons (xtup (lcons (xk (.int 1)) (lcons (xtup lnil) lnil))) lnil)))))
  (sseq (sif (t2 neD (xcall Fplain_switch (lcons (xtup (lcons (xk (.str "switch")) (lcons (xname 1) (lcons (xtup (lcons (xtup (lcons (xk (.int 0)) (lcons (xk (.int 4)) lnil))) (lcons (xtup (lcons (xk (.int 1)) (lcons (xk (.int 4)) lnil))) lnil))) (lcons (xk .none) lnil))))) lnil)) (xtup (lcons (xk (.str "switch")) (lcons (xname 1) (lcons (xtup (lcons (xtup (lcons (xk (.int 0)) (lcons (xk (.int 4)) lnil))) (lcons (xtup (lcons (xk (.int 1)) (lcons (xk (.int 4)) lnil))) lnil))) (lcons (xk .none) lnil)))))) (sseq (sret (xk (.bool false)))
  snil) snil)
  (sseq (sif (t2 neD (xcall Fplain_switch (lcons (xtup (lcons (xk (.str "switch")) (lcons (xname 1) (lcons (xtup (lcons (xtup (lcons (xk (.int 0)) (lcons (xk (.int 4)) lnil))) lnil)) (lcons (xk (.int 4)) lnil))))) lnil)) (xtup (lcons (xk (.str "goto")) (lcons (xk (.int 4)) lnil)))) (sseq (sret (xk (.bool false)))
  snil) snil)
  (sseq (sset 2 (cnew F_law_pool (lcons (xname 0) (lcons (xk (.int 0)) lnil))))
  snil))))
noncomputable def fLaw2 : SF := (sseq (sset 3 (cfrz (op2 addD (xk (.int 2)) (xcall F_law_take (lcons (xname 2) (lcons (xk (.int 4)) lnil))))))
  (sseq (sset 4 (cown (xcomp [2, 3] (irange (xname 3)) cbname tt (xcall F_law_block (lcons (xname 0) (lcons (xname 1) lnil))))))
  (sseq (sset 5 (cown (xcomp [2] (irange (xname 3)) cbname (t2 gtI (xcall F_law_take (lcons (xname 0) (lcons (xk (.int 3)) lnil))) (xk (.int 0))) (xname 1))))
  (sfrz 4 (sfrz 5 (sseq (sif (tor (tnot (tval (xcall F_law_threads_right (lcons (xname 4) lnil)))) (tnot (tval (xcall F_law_ways_right (lcons (xname 4) (lcons (xname 5) lnil)))))) (sseq (sret (xk (.bool false)))
  snil) snil)
  (sseq (spar [6, 7] (lccons (cfrz (xcall F_law_body (lcons (xname 4) lnil))) (lccons (cfrz (xcall F_law_met (lcons (xname 4) lnil))) lcnil)))
  (sseq (sret (xand (op2 eqD (xcall Fcome_to (lcons (xname 6) lnil)) (bname 7)) (op2 eqD (xcall Fchains (lcons (xname 6) lnil)) (xcall F_law_rows (lcons (xname 4) (lcons (xname 7) lnil))))))
  snil))))))))
noncomputable def splitL : { q : List Stmt × List Stmt // b221.1 = q.1 ++ q.2 ∧ q.1.length = 4 } := ⟨([_, _, _, _], _), rfl, rfl⟩
theorem dLaw1 {c : Cx} (k : Cfg c) : SSp c 6 sc221.1 nmL wrL splitL.1.1 fLaw1 := by
  have ok := k.ok
  have hK := k.hK
  have hC := k.hC
  have bc := k.bc
  have lo := k.lo
  obtain ⟨oI, fi, bb⟩ := k.fi
  have nd : nmL.Nodup := nodup_of rfl
  exact (SSp.cons (SS.assign nd (SX.toC (SX.tup (SL.cons SX.kstr (SL.cons (SX.tup (SL.cons SX.kint (SL.cons (SX.tup SL.nil) SL.nil))) SL.nil)))) rfl (st_loc rfl))
  (SSp.cons (SS.ifs (ST.cmp op_ne (SX.toB (SX.call ok (nplain_switch hK) (dplain_switch k) (by decide) (SL.cons (SX.tup (SL.cons SX.kstr (SL.cons (SX.name (i := 1) rfl) (SL.cons (SX.tup (SL.cons (SX.tup (SL.cons SX.kint (SL.cons SX.kint SL.nil))) (SL.cons (SX.tup (SL.cons SX.kint (SL.cons SX.kint SL.nil))) SL.nil))) (SL.cons SX.knone SL.nil))))) SL.nil))) (SX.toB (SX.tup (SL.cons SX.kstr (SL.cons (SX.name (i := 1) rfl) (SL.cons (SX.tup (SL.cons (SX.tup (SL.cons SX.kint (SL.cons SX.kint SL.nil))) (SL.cons (SX.tup (SL.cons SX.kint (SL.cons SX.kint SL.nil))) SL.nil))) (SL.cons SX.knone SL.nil))))))) (SSs.cons (SS.ret SX.kbool)
  SSs.nil) SSs.nil)
  (SSp.cons (SS.ifs (ST.cmp op_ne (SX.toB (SX.call ok (nplain_switch hK) (dplain_switch k) (by decide) (SL.cons (SX.tup (SL.cons SX.kstr (SL.cons (SX.name (i := 1) rfl) (SL.cons (SX.tup (SL.cons (SX.tup (SL.cons SX.kint (SL.cons SX.kint SL.nil))) SL.nil)) (SL.cons SX.kint SL.nil))))) SL.nil))) (SX.toB (SX.tup (SL.cons SX.kstr (SL.cons SX.kint SL.nil))))) (SSs.cons (SS.ret SX.kbool)
  SSs.nil) SSs.nil)
  (SSp.cons (SS.assign nd (SC.callF ok (n_law_pool hK) (d_law_pool k) (by decide) (SL.cons (SX.name (i := 0) rfl) (SL.cons SX.kint SL.nil))) rfl (st_cell rfl))
  SSp.nil))))
theorem dLaw2 {c : Cx} (k : Cfg c) : SSs c 6 sc221.1 nmL wrL splitL.1.2 fLaw2 := by
  have ok := k.ok
  have hK := k.hK
  have hC := k.hC
  have bc := k.bc
  have lo := k.lo
  obtain ⟨oI, fi, bb⟩ := k.fi
  have nd : nmL.Nodup := nodup_of rfl
  exact (SSs.cons (SS.assign nd (SX.toC (SX.binop op_add (SX.toB SX.kint) (SX.toB (SX.call ok (n_law_take hK) (d_law_take k) (by decide) (SL.cons (SX.name (i := 2) rfl) (SL.cons SX.kint SL.nil)))))) rfl (st_cell rfl))
  (SSs.cons (SS.assignComp (i := 4) nd ok (cap := [2, 3]) (xs := ["block"]) (nm' := ["source", "many", "block"]) (compOk_of rfl rfl) (SI.toB (SI.range ok (g_range hK) (SX.name (i := 3) rfl))) (SCb.name (lk_eq rfl)) SIf.nil (SX.call ok (n_law_block hK) (d_law_block k) (by decide) (SL.cons (SX.name (i := 0) rfl) (SL.cons (SX.name (i := 1) rfl) SL.nil))) rfl (st_loc rfl) (by intro env h; cases env; subst h; rfl))
  (SSs.cons (SS.assignComp (i := 5) nd ok (cap := [2]) (xs := ["block"]) (nm' := ["source", "block"]) (compOk_of rfl rfl) (SI.toB (SI.range ok (g_range hK) (SX.name (i := 3) rfl))) (SCb.name (lk_eq rfl)) (SIf.one (ST.cmp op_gtI (SX.toB (SX.call ok (n_law_take hK) (d_law_take k) (by decide) (SL.cons (SX.name (i := 0) rfl) (SL.cons SX.kint SL.nil)))) (SX.toB SX.kint))) (SX.name (i := 1) rfl) rfl (st_loc rfl) (by intro env h; cases env; subst h; rfl))
  (SSs.frz (SSs.frz (SSs.cons (SS.ifs (ST.or2 (ST.not (ST.val (SX.call ok (n_law_threads_right hK) (d_law_threads_right k) (by decide) (SL.cons (SX.name (i := 4) rfl) SL.nil)))) (ST.not (ST.val (SX.call ok (n_law_ways_right hK) (d_law_ways_right k) (by decide) (SL.cons (SX.name (i := 4) rfl) (SL.cons (SX.name (i := 5) rfl) SL.nil)))))) (SSs.cons (SS.ret SX.kbool)
  SSs.nil) SSs.nil)
  (SSs.cons (SS.par (xs := ["body", "met"]) (is := [6, 7]) nd rfl (by decide) (par_of rfl) (SLC.cons (SX.toC (SX.call ok (n_law_body hK) (d_law_body k) (by decide) (SL.cons (SX.name (i := 4) rfl) SL.nil))) (SLC.cons (SX.toC (SX.call ok (n_law_met hK) (d_law_met k) (by decide) (SL.cons (SX.name (i := 4) rfl) SL.nil))) SLC.nil)) (by intro env h; cases env; subst h; rfl))
  (SSs.cons (SS.ret (SX.and2 (SX.cmp op_eq (SX.toB (SX.call ok (ncome_to hK) (dcome_to k) (by decide) (SL.cons (SX.name (i := 6) rfl) SL.nil))) (SB.name (i := 7) rfl)) (SX.cmp op_eq (SX.toB (SX.call ok (nchains hK) (dchains k) (by decide) (SL.cons (SX.name (i := 6) rfl) SL.nil))) (SX.toB (SX.call ok (n_law_rows hK) (d_law_rows k) (by decide) (SL.cons (SX.name (i := 4) rfl) (SL.cons (SX.name (i := 7) rfl) SL.nil)))))))
  SSs.nil))))))))
end Mine
end
section
open PySem
set_option linter.unusedVariables false
namespace Mine
/-! ## the law's data, typed -/
inductive Tm where
  | goto (g : Nat)
  | switch (rows : List Nat) (last : Option Nat)
  | call (g : Option Nat)
  | drop (g : Nat)
  | assert (g : Nat)
  | panic
  | ret
  | unr
noncomputable def Tm.goals : Tm → List (Option Nat)
  | .goto g => [some g]
  | .switch rows last => rows.map some ++ [last]
  | .call g => [g]
  | .drop g => [some g]
  | .assert g => [some g]
  | _ => []
theorem glG (g : Nat) : (Tm.goto g).goals = [some g] := rfl
theorem glS (rows : List Nat) (last : Option Nat) : (Tm.switch rows last).goals = rows.map some ++ [last] := rfl
theorem glC (g : Option Nat) : (Tm.call g).goals = [g] := rfl
theorem glD (g : Nat) : (Tm.drop g).goals = [some g] := rfl
theorem glA (g : Nat) : (Tm.assert g).goals = [some g] := rfl
theorem glR : Tm.ret.goals = [] := rfl
theorem glP : Tm.panic.goals = [] := rfl
theorem glU : Tm.unr.goals = [] := rfl
noncomputable def Tm.word : Tm → Str
  | .goto _ => "goto"
  | .switch _ _ => "switch"
  | .call _ => "call"
  | .drop _ => "drop"
  | .assert _ => "assert"
  | .panic => "panic"
  | .ret => "return"
  | .unr => "unreachable"
noncomputable def encN (n : Nat) : D := .int n
noncomputable def encO : Option Nat → D
  | none => .none
  | some n => encN n
noncomputable def encRows : Nat → List Nat → List D
  | _, [] => []
  | k, g :: r => .tup [encN k, encN g] :: encRows (k + 1) r
noncomputable def cpD : D := .tup [.str "copy", .tup [.int 1, .tup []]]
noncomputable def encT : Tm → D
  | .goto g => .tup [.str "goto", encN g]
  | .switch rows last => .tup [.str "switch", cpD, .tup (encRows 0 rows), encO last]
  | .call g => .tup [.str "call", .tup [.str "fn", .str "f", .tup []], .tup [], .tup [.int 0, .tup []], encO g]
  | .drop g => .tup [.str "drop", .tup [.int 1, .tup []], encN g]
  | .assert g => .tup [.str "assert", cpD, .bool true, .str "told", encN g]
  | .panic => .tup [.str "panic", .str "told"]
  | .ret => .tup [.str "return"]
  | .unr => .tup [.str "unreachable"]
noncomputable def eachGo : List Nat → List (Option Nat) → List Nat
  | acc, [] => acc
  | acc, none :: r => eachGo acc r
  | acc, some g :: r => if acc.contains g then eachGo acc r else eachGo (acc ++ [g]) r
theorem eachGo_z {acc : List Nat} : eachGo acc [] = acc := rfl
theorem eachGo_n {acc : List Nat} {r : List (Option Nat)} : eachGo acc (none :: r) = eachGo acc r := rfl
theorem eachGo_s {acc : List Nat} {g : Nat} {r : List (Option Nat)} : eachGo acc (some g :: r) = if acc.contains g then eachGo acc r else eachGo (acc ++ [g]) r := rfl
noncomputable def each (gs : List (Option Nat)) : List Nat := eachGo [] gs
noncomputable def encL (l : List Nat) : D := .list (l.map encN)
/-! ## loops -/
theorem forL_inv {tg : TG} {body : SF} {σ : Src} (I : List D → Vars → Prop) (step : ∀ d ds ρ, I (d :: ds) ρ → ∃ ρ₁ ρ₂, tg d ρ = some ρ₁ ∧ (body ρ₁ σ = some (.next, ρ₂, σ) ∨ body ρ₁ σ = some (.cont, ρ₂, σ)) ∧ I ds ρ₂) :
    ∀ {ds : List D} {ρ : Vars}, I ds ρ → ∃ ρ', forL tg body ds ρ σ = some (.next, ρ', σ) ∧ I [] ρ'
  | [], ρ, h => ⟨ρ, rfl, h⟩
  | d :: ds, ρ, h => by
    refine gen ?_; intro GG kGG
    obtain ⟨ρ₁, ρ₂, h1, h2, h3⟩ := step d ds ρ h
    obtain ⟨ρ', h4, h5⟩ := forL_inv I step h3
    refine kGG ?_; clear kGG
    refine ⟨ρ', ?_, h5⟩
    rw [forL_cons]
    rw [h1]
    rcases h2 with h2 | h2 <;> simp only [h2, h4]
theorem eqv_int (a b : Nat) : PyData.eqv (.int (a : Int)) (.int (b : Int)) = (a == b) := by
  show ((a : Int) == (b : Int)) = (a == b)
  by_cases h : a = b
  · subst h; simp
  · have h2 : ¬ (a : Int) = (b : Int) := by lia
    rw [beq_eq_false_iff_ne.mpr h2, beq_eq_false_iff_ne.mpr h]
theorem any_encN (l : List Nat) (g : Nat) : ((pys (l.map encN)).any fun y => PyData.eqv y (.int (g : Int))) = l.contains g := by
  induction l with
  | nil => rfl
  | cons a l ih =>
    rw [List.map_cons]
    simp only [pys, List.any_cons, ih, List.contains_cons]
    show (PyData.eqv (.int (a : Int)) (.int (g : Int)) || _) = _
    rw [eqv_int]
    congr 1
    exact Bool.beq_comm
theorem okDs_encN (n : Nat) (l : List Nat) : okDs n (l.map encN) = true := by
  induction l with
  | nil => cases n <;> rfl
  | cons a l ih =>
    rw [List.map_cons]
    show (okD n (.int a) && okDs n (l.map encN)) = true
    rw [ih]
    cases n <;> rfl
theorem inD_encN (l : List Nat) (g : Nat) : inD (encN g) (encL l) = some (.bool (l.contains g)) := by
  show (if okD 16 (encN g) && okDs 16 (l.map encN) then some (D.bool ((pys (l.map encN)).any fun y => PyData.eqv y (py (encN g)))) else none) = _
  rw [okDs_encN]
  have : okD 16 (encN g) = true := rfl
  rw [this]
  show some (D.bool ((pys (l.map encN)).any fun y => PyData.eqv y (.int (g : Int)))) = _
  rw [any_encN]
theorem ninD_encN (l : List Nat) (g : Nat) : ninD (encN g) (encL l) = some (.bool (!l.contains g)) := by
  unfold ninD; rw [inD_encN]
end Mine
end
section
open PySem
set_option linter.unusedVariables false
namespace Mine
theorem sseq_next {f g : SF} {ρ ρ' : Vars} {σ σ' : Src} (h : f ρ σ = some (.next, ρ', σ')) : sseq f g ρ σ = g ρ' σ' := by unfold sseq; rw [h]
theorem sif_t {t : TX} {f g : SF} {ρ : Vars} {σ σ' : Src} (h : t ρ σ = some (true, σ')) : sif t f g ρ σ = f ρ σ' := by unfold sif; rw [h]
theorem sif_f {t : TX} {f g : SF} {ρ : Vars} {σ σ' : Src} (h : t ρ σ = some (false, σ')) : sif t f g ρ σ = g ρ σ' := by unfold sif; rw [h]
theorem comp_rows (σ : Src) : ∀ (rows : List Nat) (k : Nat), compL (cbtup 2) tt (xname 1) [] (encRows k rows) σ = some (rows.map encN, σ)
  | [], k => rfl
  | g :: r, k => by
    show (match compL (cbtup 2) tt (xname 1) [] (encRows (k + 1) r) σ with
      | some (es, σ) => some (encN g :: es, σ)
      | none => none) = _
    rw [comp_rows σ r (k + 1)]
    rfl
theorem encRows_len : ∀ (rows : List Nat) (k : Nat), (encRows k rows).length = rows.length
  | [], _ => rfl
  | _ :: r, k => by show (encRows (k + 1) r).length + 1 = r.length + 1; rw [encRows_len r]
noncomputable def toldD (t : Tm) : D := .list (t.goals.map encO)
theorem map_some (rows : List Nat) : (rows.map some).map encO = rows.map encN := by rw [List.map_map]; rfl
theorem succ_loop (T w told : D) (σ : Src) (res : List Nat) : ∀ (gs : List (Option Nat)) (acc : List Nat) (j : Cell), eachGo acc gs = res → acc.length + gs.length ≤ 1000 →
    ∃ j', forL (tname 3) (sseq (sif (tand (t2 isntD (bname 3) (xk .none)) (t2 ninD (bname 3) (bname 2))) (sseq (sappend 2 (xname 3)) snil) snil) snil) (gs.map encO) [.frz T, .frz w, .own (encL acc), j, .frz told] σ =
      some (.next, [.frz T, .frz w, .own (encL res), j', .frz told], σ)
  | [], acc, j, h, _ => ⟨j, by subst h; rfl⟩
  | none :: gs, acc, j, h, hl => by
    obtain ⟨j', e⟩ := succ_loop T w told σ res gs acc (.frz .none) h (by simp at hl; omega)
    exact ⟨j', e⟩
  | some g :: gs, acc, j, h, hl => by
    simp only [List.length_cons] at hl
    have hin : t2 ninD (bname 3) (bname 2) [.frz T, .frz w, .own (encL acc), .frz (encN g), .frz told] σ = some (!acc.contains g, σ) := by
      show (match (match ninD (encN g) (encL acc) with | some r => some (r, σ) | none => none) with | some (.bool b, σ) => some (b, σ) | _ => none) = _
      rw [ninD_encN]
    have ht : ∀ b, acc.contains g = b → tand (t2 isntD (bname 3) (xk .none)) (t2 ninD (bname 3) (bname 2)) [.frz T, .frz w, .own (encL acc), .frz (encN g), .frz told] σ = some (!b, σ) := fun b hb => by
      show t2 ninD (bname 3) (bname 2) [.frz T, .frz w, .own (encL acc), .frz (encN g), .frz told] σ = _
      rw [hin, hb]
    rw [eachGo_s] at h
    cases hb : acc.contains g with
    | true =>
      rw [hb, if_pos rfl] at h
      obtain ⟨j', e⟩ := succ_loop T w told σ res gs acc (.frz (encN g)) h (by omega)
      refine ⟨j', ?_⟩
      rw [← e, List.map_cons]
      have step : (sseq (sif (tand (t2 isntD (bname 3) (xk .none)) (t2 ninD (bname 3) (bname 2))) (sseq (sappend 2 (xname 3)) snil) snil) snil) [.frz T, .frz w, .own (encL acc), .frz (encN g), .frz told] σ = some (.next, [.frz T, .frz w, .own (encL acc), .frz (encN g), .frz told], σ) := by
        rw [sseq_next (sif_f (ht true hb))]; rfl
      show (match (sseq (sif (tand (t2 isntD (bname 3) (xk .none)) (t2 ninD (bname 3) (bname 2))) (sseq (sappend 2 (xname 3)) snil) snil) snil) [.frz T, .frz w, .own (encL acc), .frz (encN g), .frz told] σ with
        | some (.next, ρ₂, σ₂) => forL _ _ (gs.map encO) ρ₂ σ₂ | some (.cont, ρ₂, σ₂) => forL _ _ (gs.map encO) ρ₂ σ₂ | some (.brk, ρ₂, σ₂) => some (.next, ρ₂, σ₂) | some (.ret d, ρ₂, σ₂) => some (.ret d, ρ₂, σ₂) | none => none) = _
      rw [step]
    | false =>
      rw [hb, if_neg (by simp)] at h
      obtain ⟨j', e⟩ := succ_loop T w told σ res gs (acc ++ [g]) (.frz (encN g)) h (by simp; omega)
      refine ⟨j', ?_⟩
      rw [← e, List.map_cons]
      have app : sappend 2 (xname 3) [.frz T, .frz w, .own (encL acc), .frz (encN g), .frz told] σ = some (.next, [.frz T, .frz w, .own (encL (acc ++ [g])), .frz (encN g), .frz told], σ) := by
        show (if (acc.map encN).length ≤ 1000 then some (Fl.next, [Cell.frz T, .frz w, .own (.list (acc.map encN ++ [encN g])), .frz (encN g), .frz told], σ) else none) = _
        rw [if_pos (by rw [List.length_map]; omega)]
        unfold encL
        rw [List.map_append]
        rfl
      have step : (sseq (sif (tand (t2 isntD (bname 3) (xk .none)) (t2 ninD (bname 3) (bname 2))) (sseq (sappend 2 (xname 3)) snil) snil) snil) [.frz T, .frz w, .own (encL acc), .frz (encN g), .frz told] σ = some (.next, [.frz T, .frz w, .own (encL (acc ++ [g])), .frz (encN g), .frz told], σ) := by
        rw [sseq_next (show sif _ _ _ _ _ = _ from (sif_t (ht false hb)).trans (sseq_next app))]; rfl
      show (match (sseq (sif (tand (t2 isntD (bname 3) (xk .none)) (t2 ninD (bname 3) (bname 2))) (sseq (sappend 2 (xname 3)) snil) snil) snil) [.frz T, .frz w, .own (encL acc), .frz (encN g), .frz told] σ with
        | some (.next, ρ₂, σ₂) => forL _ _ (gs.map encO) ρ₂ σ₂ | some (.cont, ρ₂, σ₂) => forL _ _ (gs.map encO) ρ₂ σ₂ | some (.brk, ρ₂, σ₂) => some (.next, ρ₂, σ₂) | some (.ret d, ρ₂, σ₂) => some (.ret d, ρ₂, σ₂) | none => none) = _
      rw [step]
theorem succ_ok (t : Tm) (σ : Src) (h : t.goals.length ≤ 900) : Fsuccessors [encT t] σ = some (encL (each t.goals), σ) := by
  have h1 : (sset 1 (cfrz (xsub (bname 0) (xk (.int 0))))) (vars0 [encT t] 4) σ = some (.next, [.frz (encT t), .frz (.str t.word), .un, .un, .un], σ) := by cases t <;> rfl
  show (if [encT t].length = 1 then (match fsuccessors (vars0 [encT t] 4) σ with | some (.ret d, _, σ) => some (d, σ) | _ => none) else none) = _
  rw [if_pos (show [encT t].length = 1 from rfl)]
  unfold fsuccessors
  rw [sseq_next h1]
  obtain ⟨j', e⟩ := succ_loop (encT t) (.str t.word) (toldD t) σ (each t.goals) t.goals [] .un rfl (by simp; omega)
  have fin : (sseq (sset 2 (cown (xlist lnil)))
    (sseq (sfor (ival (xname 4)) (tname 3) (sseq (sif (tand (t2 isntD (bname 3) (xk .none)) (t2 ninD (bname 3) (bname 2))) (sseq (sappend 2 (xname 3)) snil) snil) snil))
    (sfrz 2 (sseq (sret (xname 2)) snil)))) [.frz (encT t), .frz (.str t.word), .un, .un, .frz (toldD t)] σ = some (.ret (encL (each t.goals)), [.frz (encT t), .frz (.str t.word), .frz (encL (each t.goals)), j', .frz (toldD t)], σ) := by
    have e1 : sset 2 (cown (xlist lnil)) [.frz (encT t), .frz (.str t.word), .un, .un, .frz (toldD t)] σ = some (.next, [.frz (encT t), .frz (.str t.word), .own (encL []), .un, .frz (toldD t)], σ) := rfl
    rw [sseq_next e1]
    have e2 : sfor (ival (xname 4)) (tname 3) (sseq (sif (tand (t2 isntD (bname 3) (xk .none)) (t2 ninD (bname 3) (bname 2))) (sseq (sappend 2 (xname 3)) snil) snil) snil) [.frz (encT t), .frz (.str t.word), .own (encL []), .un, .frz (toldD t)] σ = _ := e
    rw [sseq_next e2]
    rfl
  have out := congrArg (fun r : Option (Fl × Vars × Src) => match r with | some (.ret d, _, σ) => some (d, σ) | _ => none) fin
  cases t with
  | switch rows last =>
    have e3 : op2 addD (xcomp [] (ival (xsub (bname 0) (xk (.int 2)))) (cbtup 2) tt (xname 1)) (xlist (lcons (xsub (bname 0) (xk (.int 3))) lnil)) [.frz (encT (.switch rows last)), .frz (.str (Tm.switch rows last).word), .un, .un, .un] σ = some (toldD (.switch rows last), σ) := by
      have hl : rows.length ≤ 900 := by simp [glG, glS, glC, glD, glA, glR, glP, glU] at h; omega
      have e4 : xcomp [] (ival (xsub (bname 0) (xk (.int 2)))) (cbtup 2) tt (xname 1) [.frz (encT (.switch rows last)), .frz (.str (Tm.switch rows last).word), .un, .un, .un] σ = some (.list (rows.map encN), σ) := by
        show (if (encRows 0 rows).length ≤ 1000 ∧ ([] : List Nat).all (isSet _) = true then (match compL (cbtup 2) tt (xname 1) [] (encRows 0 rows) σ with | some (es, σ) => some (D.list es, σ) | none => none) else none) = _
        rw [if_pos ⟨by rw [encRows_len]; omega, rfl⟩, comp_rows]
      unfold op2
      rw [e4]
      show (match (if (rows.map encN).length + 1 ≤ 1000 then some (D.list (rows.map encN ++ [encO last])) else none) with | some r => some (r, σ) | none => none) = _
      rw [if_pos (by rw [List.length_map]; omega)]
      unfold toldD
      rw [glS]
      rw [List.map_append, map_some]
      rfl
    have e5 : sset 4 (cfrz (op2 addD (xcomp [] (ival (xsub (bname 0) (xk (.int 2)))) (cbtup 2) tt (xname 1)) (xlist (lcons (xsub (bname 0) (xk (.int 3))) lnil)))) [.frz (encT (.switch rows last)), .frz (.str (Tm.switch rows last).word), .un, .un, .un] σ = some (.next, [.frz (encT (.switch rows last)), .frz (.str (Tm.switch rows last).word), .un, .un, .frz (toldD (.switch rows last))], σ) := by
      unfold sset cfrz
      rw [e3]
      rfl
    have t1 : t2 eqD (bname 1) (xk (.str "goto")) [.frz (encT (.switch rows last)), .frz (.str (Tm.switch rows last).word), .un, .un, .un] σ = some (false, σ) := rfl
    have t2' : t2 eqD (bname 1) (xk (.str "switch")) [.frz (encT (.switch rows last)), .frz (.str (Tm.switch rows last).word), .un, .un, .un] σ = some (true, σ) := rfl
    have e6 := (sseq_next e5 : sseq _ snil _ σ = _)
    have e7 := (sif_t (g := (sseq (sif (t2 eqD (bname 1) (xk (.str "call"))) (sseq (sset 4 (cfrz (xlist (lcons (xsub (bname 0) (xk (.int 4))) lnil)))) snil) (sseq (sif (t2 eqD (bname 1) (xk (.str "drop"))) (sseq (sset 4 (cfrz (xlist (lcons (xsub (bname 0) (xk (.int 2))) lnil)))) snil) (sseq (sif (t2 eqD (bname 1) (xk (.str "assert"))) (sseq (sset 4 (cfrz (xlist (lcons (xsub (bname 0) (xk (.int 4))) lnil)))) snil) (sseq (sset 4 (cfrz (xlist lnil))) snil)) snil)) snil)) snil)) t2').trans e6
    rw [sseq_next ((sif_f t1).trans (sseq_next e7))]
    exact out
  | goto g => exact out
  | call g => exact out
  | drop g => exact out
  | assert g => exact out
  | panic => exact out
  | ret => exact out
  | unr => exact out
end Mine
end
section
open PySem
set_option linter.unusedVariables false
namespace Mine
theorem sseq_ret {f g : SF} {ρ ρ' : Vars} {σ σ' : Src} {d : D} (h : f ρ σ = some (.ret d, ρ', σ')) : sseq f g ρ σ = some (.ret d, ρ', σ') := by unfold sseq; rw [h]
theorem t2_eq {g : D → D → Option D} {f1 f2 : EX} {ρ : Vars} {σ σ1 σ2 : Src} {d e : D} {b : Bool} (h1 : f1 ρ σ = some (d, σ1)) (h2 : f2 ρ σ1 = some (e, σ2)) (h3 : g d e = some (.bool b)) : t2 g f1 f2 ρ σ = some (b, σ2) := by
  unfold t2 op2
  rw [h1]
  dsimp only
  rw [h2]
  dsimp only
  rw [h3]
theorem neD_encN (a b : Nat) : neD (encN a) (encN b) = some (.bool (!(a == b))) := by
  show (if okD 16 (encN a) && okD 16 (encN b) then some (D.bool (!PyData.eqv (.int (a : Int)) (.int (b : Int)))) else none) = _
  rw [eqv_int]
  rfl
theorem comp_ne (σ : Src) (x : Nat) (r : List Nat) : ∀ ys : List Nat, compL cbname (t2 neD (bname 1) (xsub (bname 0) (xk (.int 0)))) (xname 1) [.frz (encL (x :: r))] (ys.map encN) σ = some ((ys.filter fun y => !(y == x)).map encN, σ)
  | [] => rfl
  | y :: ys => by
    have ht : t2 neD (bname 1) (xsub (bname 0) (xk (.int 0))) ([.frz (encL (x :: r))] ++ [encN y].map .frz) σ = some (!(y == x), σ) := by
      show (match (match neD (encN y) (encN x) with | some r => some (r, σ) | none => none) with | some (.bool b, σ) => some (b, σ) | _ => none) = _
      rw [neD_encN]
    rw [List.map_cons]
    rw [compL_cons]
    show (match t2 neD (bname 1) (xsub (bname 0) (xk (.int 0))) ([.frz (encL (x :: r))] ++ [encN y].map .frz) σ with
      | some (true, σ) => _ | some (false, σ) => _ | none => none) = _
    rw [ht, List.filter_cons]
    cases hb : y == x with
    | true =>
      simp only [Bool.not_true, Bool.false_eq_true, if_false]
      exact comp_ne σ x r ys
    | false =>
      simp only [Bool.not_false, if_true]
      show (match compL cbname (t2 neD (bname 1) (xsub (bname 0) (xk (.int 0)))) (xname 1) [.frz (encL (x :: r))] (ys.map encN) σ with | some (es, σ) => some (encN y :: es, σ) | none => none) = _
      rw [comp_ne σ x r ys]
      rfl
noncomputable def plainW (t : Tm) (last : Option Nat) (E : List Nat) : Tm := match last, E with
  | some _, [x] => .goto x
  | _, _ => t
noncomputable def plainT : Tm → Tm
  | .switch rows last => plainW (.switch rows last) last (each (Tm.switch rows last).goals)
  | t => t
theorem eachGo_nodup : ∀ (gs : List (Option Nat)) (acc : List Nat), acc.Nodup → (eachGo acc gs).Nodup
  | [], acc, h => h
  | none :: r, acc, h => eachGo_nodup r acc h
  | some g :: r, acc, h => by
    rw [eachGo_s]
    split
    · exact eachGo_nodup r acc h
    · rename_i hc
      refine eachGo_nodup r _ ?_
      rw [List.nodup_append]
      refine ⟨h, by simp, fun a ha b hb e => hc ?_⟩
      simp only [List.mem_singleton] at hb
      subst hb; subst e
      simpa using ha
theorem each_nodup (gs : List (Option Nat)) : (each gs).Nodup := eachGo_nodup gs [] List.nodup_nil
theorem eachGo_len : ∀ (gs : List (Option Nat)) (acc : List Nat), (eachGo acc gs).length ≤ acc.length + gs.length
  | [], acc => by simp [eachGo_z]
  | none :: r, acc => by have := eachGo_len r acc; rw [eachGo_n]; simp; lia
  | some g :: r, acc => by
    rw [eachGo_s]
    split
    · have := eachGo_len r acc; simp; lia
    · have := eachGo_len r (acc ++ [g]); simp at this ⊢; lia
theorem each_len (gs : List (Option Nat)) : (each gs).length ≤ gs.length := by have := eachGo_len gs []; simpa [each] using this
theorem eqv_nil (l : List Nat) : PyData.eqv (py (encL l)) (py (.list [])) = l.isEmpty := by
  cases l <;> rfl
theorem eqD_nil (l : List Nat) : eqD (encL l) (.list []) = some (.bool l.isEmpty) := by
  show (if okDs 15 (l.map encN) && true then some (D.bool (PyData.eqv (py (encL l)) (py (.list [])))) else none) = _
  rw [okDs_encN, eqv_nil]
  rfl
theorem neD_nil (l : List Nat) : neD (encL l) (.list []) = some (.bool (!l.isEmpty)) := by
  show (if okDs 15 (l.map encN) && true then some (D.bool (!PyData.eqv (py (encL l)) (py (.list [])))) else none) = _
  rw [okDs_encN, eqv_nil]
  rfl
theorem plain_ok (t : Tm) (σ : Src) (h : t.goals.length ≤ 900) : Fplain_switch [encT t] σ = some (encT (plainT t), σ) := by
  cases t with
  | switch rows last =>
    show (match fplain_switch (vars0 [encT (.switch rows last)] 1) σ with | some (.ret d, _, σ) => some (d, σ) | _ => none) = _
    have hs := succ_ok (.switch rows last) σ h
    have hl := Nat.le_trans (each_len (Tm.switch rows last).goals) h
    have hnd := each_nodup (Tm.switch rows last).goals
    show _ = some (encT (plainW (.switch rows last) last (each (Tm.switch rows last).goals)), σ)
    generalize each (Tm.switch rows last).goals = E at *
    have hlast : subS σ (encT (.switch rows last)) (.int 3) = some (encO last) := rfl
    generalize hT : encT (.switch rows last) = T at *
    have e1 : (sif (t2 neD (xsub (bname 0) (xk (.int 0))) (xk (.str "switch"))) (sseq (sret (xname 0)) snil) snil) [.frz T, .un] σ = some (.next, [.frz T, .un], σ) := by subst hT; rfl
    have e2 : (sset 1 (cfrz (xcall Fsuccessors (lcons (xname 0) lnil)))) [.frz T, .un] σ = some (.next, [.frz T, .frz (encL E)], σ) := by
      show (match (match Fsuccessors [T] σ with | some (d, σ) => some (Cell.frz d, σ) | none => none) with | some (k, σ) => some (Fl.next, ([Cell.frz T, .un] : Vars).set 1 k, σ) | none => none) = _
      rw [hs]; rfl
    have c1 : t2 eqD (bname 1) (xlist lnil) [.frz T, .frz (encL E)] σ = some (E.isEmpty, σ) := by
      show (match (match eqD (encL E) (.list []) with | some r => some (r, σ) | none => none) with | some (.bool b, σ) => some (b, σ) | _ => none) = _
      rw [eqD_nil]
    unfold fplain_switch
    show (match sseq _ _ [.frz T, .un] σ with | some (.ret d, _, σ) => some (d, σ) | _ => none) = _
    rw [sseq_next e1, sseq_next e2]
    cases E with
    | nil =>
      have c2 : tor (t2 eqD (bname 1) (xlist lnil)) (t2 neD (xcomp [1] (ival (xname 1)) cbname (t2 neD (bname 1) (xsub (bname 0) (xk (.int 0)))) (xname 1)) (xlist lnil)) [.frz T, .frz (encL [])] σ = some (true, σ) := by unfold tor; rw [c1]; rfl
      have c3 : sif (tor (t2 eqD (bname 1) (xlist lnil)) (t2 neD (xcomp [1] (ival (xname 1)) cbname (t2 neD (bname 1) (xsub (bname 0) (xk (.int 0)))) (xname 1)) (xlist lnil))) (sseq (sret (xname 0)) snil) snil [.frz T, .frz (encL [])] σ = some (.ret T, [.frz T, .frz (encL [])], σ) := (sif_t c2).trans rfl
      rw [sseq_ret c3]
      have : plainW (.switch rows last) last [] = .switch rows last := by cases last <;> rfl
      rw [this, hT]
    | cons x r =>
      have hf : ((x :: r).filter fun y => !(y == x)) = r := by
        rw [List.filter_cons]
        simp only [beq_self_eq_true, Bool.not_true, Bool.false_eq_true, if_false]
        rw [List.filter_eq_self]
        intro y hy
        have : y ≠ x := fun e => (List.nodup_cons.mp hnd).1 (e ▸ hy)
        simp [this]
      have cc : xcomp [1] (ival (xname 1)) cbname (t2 neD (bname 1) (xsub (bname 0) (xk (.int 0)))) (xname 1) [.frz T, .frz (encL (x :: r))] σ = some (encL r, σ) := by
        show (if ((x :: r).map encN).length ≤ 1000 ∧ _ then (match compL cbname (t2 neD (bname 1) (xsub (bname 0) (xk (.int 0)))) (xname 1) [.frz (encL (x :: r))] ((x :: r).map encN) σ with | some (es, σ) => some (D.list es, σ) | none => none) else none) = _
        rw [if_pos ⟨by rw [List.length_map]; lia, rfl⟩, comp_ne, hf]
        rfl
      have c2 : tor (t2 eqD (bname 1) (xlist lnil)) (t2 neD (xcomp [1] (ival (xname 1)) cbname (t2 neD (bname 1) (xsub (bname 0) (xk (.int 0)))) (xname 1)) (xlist lnil)) [.frz T, .frz (encL (x :: r))] σ = some (!r.isEmpty, σ) := by
        unfold tor
        rw [c1]
        show t2 neD (xcomp [1] (ival (xname 1)) cbname (t2 neD (bname 1) (xsub (bname 0) (xk (.int 0)))) (xname 1)) (xlist lnil) [.frz T, .frz (encL (x :: r))] σ = _
        exact t2_eq cc rfl (neD_nil r)
      cases r with
      | nil =>
        rw [sseq_next ((sif_f c2).trans rfl)]
        cases last with
        | none =>
          have e5 : sret (xif (t2 isntD (xsub (bname 0) (xk (.int 3))) (xk .none)) (xtup (lcons (xk (.str "goto")) (lcons (xsub (bname 1) (xk (.int 0))) lnil))) (xname 0)) [.frz T, .frz (encL [x])] σ = some (.ret T, [.frz T, .frz (encL [x])], σ) := by subst hT; rfl
          rw [sseq_ret e5, ← hT]
          rfl
        | some l =>
          have e5 : sret (xif (t2 isntD (xsub (bname 0) (xk (.int 3))) (xk .none)) (xtup (lcons (xk (.str "goto")) (lcons (xsub (bname 1) (xk (.int 0))) lnil))) (xname 0)) [.frz T, .frz (encL [x])] σ = some (.ret (encT (.goto x)), [.frz T, .frz (encL [x])], σ) := by subst hT; rfl
          rw [sseq_ret e5]
          rfl
      | cons y r' =>
        have c3 : sif (tor (t2 eqD (bname 1) (xlist lnil)) (t2 neD (xcomp [1] (ival (xname 1)) cbname (t2 neD (bname 1) (xsub (bname 0) (xk (.int 0)))) (xname 1)) (xlist lnil))) (sseq (sret (xname 0)) snil) snil [.frz T, .frz (encL (x :: y :: r'))] σ = some (.ret T, [.frz T, .frz (encL (x :: y :: r'))], σ) := (sif_t c2).trans rfl
        rw [sseq_ret c3]
        have : plainW (.switch rows last) last (x :: y :: r') = .switch rows last := by cases last <;> rfl
        rw [this, hT]
  | goto g => rfl
  | call g => rfl
  | drop g => rfl
  | assert g => rfl
  | panic => rfl
  | ret => rfl
  | unr => rfl
end Mine
end
section
open PySem
set_option linter.unusedVariables false
namespace Mine
theorem each_loop (T : D) (σ : Src) (res : List Nat) : ∀ (gs : List (Option Nat)) (acc : List Nat) (j : Cell), eachGo acc gs = res → acc.length + gs.length ≤ 1000 →
    ∃ j', forL (tname 2) (sseq (sif (tand (t2 isntD (bname 2) (xk .none)) (t2 ninD (bname 2) (bname 1))) (sseq (sappend 1 (xname 2)) snil) snil) snil) (gs.map encO) [.frz T, .own (encL acc), j] σ =
      some (.next, [.frz T, .own (encL res), j'], σ)
  | [], acc, j, h, _ => ⟨j, by subst h; rfl⟩
  | none :: gs, acc, j, h, hl => by
    obtain ⟨j', e⟩ := each_loop T σ res gs acc (.frz .none) h (by simp at hl; lia)
    exact ⟨j', e⟩
  | some g :: gs, acc, j, h, hl => by
    simp only [List.length_cons] at hl
    have hin : t2 ninD (bname 2) (bname 1) [.frz T, .own (encL acc), .frz (encN g)] σ = some (!acc.contains g, σ) := by
      show (match (match ninD (encN g) (encL acc) with | some r => some (r, σ) | none => none) with | some (.bool b, σ) => some (b, σ) | _ => none) = _
      rw [ninD_encN]
    have ht : ∀ b, acc.contains g = b → tand (t2 isntD (bname 2) (xk .none)) (t2 ninD (bname 2) (bname 1)) [.frz T, .own (encL acc), .frz (encN g)] σ = some (!b, σ) := fun b hb => by
      show t2 ninD (bname 2) (bname 1) [.frz T, .own (encL acc), .frz (encN g)] σ = _
      rw [hin, hb]
    rw [eachGo_s] at h
    cases hb : acc.contains g with
    | true =>
      rw [hb, if_pos rfl] at h
      obtain ⟨j', e⟩ := each_loop T σ res gs acc (.frz (encN g)) h (by lia)
      refine ⟨j', ?_⟩
      rw [← e, List.map_cons]
      have step : (sseq (sif (tand (t2 isntD (bname 2) (xk .none)) (t2 ninD (bname 2) (bname 1))) (sseq (sappend 1 (xname 2)) snil) snil) snil) [.frz T, .own (encL acc), .frz (encN g)] σ = some (.next, [.frz T, .own (encL acc), .frz (encN g)], σ) := by
        rw [sseq_next (sif_f (ht true hb))]; rfl
      show (match (sseq (sif (tand (t2 isntD (bname 2) (xk .none)) (t2 ninD (bname 2) (bname 1))) (sseq (sappend 1 (xname 2)) snil) snil) snil) [.frz T, .own (encL acc), .frz (encN g)] σ with
        | some (.next, ρ₂, σ₂) => forL _ _ (gs.map encO) ρ₂ σ₂ | some (.cont, ρ₂, σ₂) => forL _ _ (gs.map encO) ρ₂ σ₂ | some (.brk, ρ₂, σ₂) => some (.next, ρ₂, σ₂) | some (.ret d, ρ₂, σ₂) => some (.ret d, ρ₂, σ₂) | none => none) = _
      rw [step]
    | false =>
      rw [hb, if_neg (by simp)] at h
      obtain ⟨j', e⟩ := each_loop T σ res gs (acc ++ [g]) (.frz (encN g)) h (by simp; lia)
      refine ⟨j', ?_⟩
      rw [← e, List.map_cons]
      have app : sappend 1 (xname 2) [.frz T, .own (encL acc), .frz (encN g)] σ = some (.next, [.frz T, .own (encL (acc ++ [g])), .frz (encN g)], σ) := by
        show (if (acc.map encN).length ≤ 1000 then some (Fl.next, [Cell.frz T, .own (.list (acc.map encN ++ [encN g])), .frz (encN g)], σ) else none) = _
        rw [if_pos (by rw [List.length_map]; lia)]
        unfold encL
        rw [List.map_append]
        rfl
      have step : (sseq (sif (tand (t2 isntD (bname 2) (xk .none)) (t2 ninD (bname 2) (bname 1))) (sseq (sappend 1 (xname 2)) snil) snil) snil) [.frz T, .own (encL acc), .frz (encN g)] σ = some (.next, [.frz T, .own (encL (acc ++ [g])), .frz (encN g)], σ) := by
        rw [sseq_next (show sif _ _ _ _ _ = _ from (sif_t (ht false hb)).trans (sseq_next app))]; rfl
      show (match (sseq (sif (tand (t2 isntD (bname 2) (xk .none)) (t2 ninD (bname 2) (bname 1))) (sseq (sappend 1 (xname 2)) snil) snil) snil) [.frz T, .own (encL acc), .frz (encN g)] σ with
        | some (.next, ρ₂, σ₂) => forL _ _ (gs.map encO) ρ₂ σ₂ | some (.cont, ρ₂, σ₂) => forL _ _ (gs.map encO) ρ₂ σ₂ | some (.brk, ρ₂, σ₂) => some (.next, ρ₂, σ₂) | some (.ret d, ρ₂, σ₂) => some (.ret d, ρ₂, σ₂) | none => none) = _
      rw [step]
noncomputable def encG (gs : List (Option Nat)) : D := .tup (gs.map encO)
theorem each_ok (gs : List (Option Nat)) (σ : Src) (h : gs.length ≤ 900) : F_law_each [encG gs] σ = some (encL (each gs), σ) := by
  obtain ⟨j', e⟩ := each_loop (encG gs) σ (each gs) gs [] .un rfl (by simp; lia)
  show (match f_law_each (vars0 [encG gs] 2) σ with | some (.ret d, _, σ) => some (d, σ) | _ => none) = _
  unfold f_law_each
  have e1 : sset 1 (cown (xlist lnil)) (vars0 [encG gs] 2) σ = some (.next, [.frz (encG gs), .own (encL []), .un], σ) := rfl
  rw [sseq_next e1]
  have e2 : sfor (ival (xname 0)) (tname 2) (sseq (sif (tand (t2 isntD (bname 2) (xk .none)) (t2 ninD (bname 2) (bname 1))) (sseq (sappend 1 (xname 2)) snil) snil) snil) [.frz (encG gs), .own (encL []), .un] σ = _ := e
  rw [sseq_next e2]
  rfl
end Mine
end
section
open PySem
set_option linter.unusedVariables false
namespace Mine
theorem lcons_eq {f : EX} {g : LX} {ρ : Vars} {σ σ1 σ2 : Src} {d : D} {ds : List D} (h1 : f ρ σ = some (d, σ1)) (h2 : g ρ σ1 = some (ds, σ2)) : lcons f g ρ σ = some (d :: ds, σ2) := by
  unfold lcons
  rw [h1]; dsimp only; rw [h2]
theorem xtup_eq {g : LX} {ρ : Vars} {σ σ1 : Src} {ds : List D} (h : g ρ σ = some (ds, σ1)) (hl : ds.length ≤ 1000) : xtup g ρ σ = some (.tup ds, σ1) := by
  unfold xtup
  rw [h]; dsimp only; rw [if_pos hl]
theorem compL_true {cb : CB} {t : TX} {f : EX} {ρc : Vars} {d e : D} {ds ls es : List D} {σ σ1 σ2 σ3 : Src} (h0 : cb d = some ls) (h1 : t (ρc ++ ls.map .frz) σ = some (true, σ1)) (h2 : f (ρc ++ ls.map .frz) σ1 = some (e, σ2)) (h3 : compL cb t f ρc ds σ2 = some (es, σ3)) :
    compL cb t f ρc (d :: ds) σ = some (e :: es, σ3) := by
  rw [compL_cons, h0]; dsimp only; rw [h1]; dsimp only; rw [h2]; dsimp only; rw [h3]
theorem compL_false {cb : CB} {t : TX} {f : EX} {ρc : Vars} {d : D} {ds ls es : List D} {σ σ1 σ3 : Src} (h0 : cb d = some ls) (h1 : t (ρc ++ ls.map .frz) σ = some (false, σ1)) (h3 : compL cb t f ρc ds σ1 = some (es, σ3)) :
    compL cb t f ρc (d :: ds) σ = some (es, σ3) := by
  rw [compL_cons, h0]; dsimp only; rw [h1]; dsimp only; rw [h3]
theorem end_simple (t : Tm) (σ : Src) (h : ∀ rows last, t ≠ .switch rows last) : F_law_end [.str t.word, encG t.goals] σ = some (encT t, σ) := by
  cases t with
  | switch rows last => exact absurd rfl (h rows last)
  | goto g => rfl
  | call g => rfl
  | drop g => rfl
  | assert g => rfl
  | panic => rfl
  | ret => rfl
  | unr => rfl
theorem idx_nat (ds : List D) (i : Nat) (h : i ≤ 1000) : idx ds ((i : Nat) : Int) = ds[i]? := by
  unfold idx
  rw [if_pos (by lia), if_pos (by lia)]
  rfl
theorem comp_at (rows : List Nat) (last : Option Nat) (σ : Src) (hl : rows.length ≤ 900) : ∀ (m j : Nat), j + m = rows.length →
    compL cbname tt (xtup (lcons (xname 1) (lcons (xsub (bname 0) (bname 1)) lnil))) [.frz (encG (rows.map some ++ [last]))] ((List.range' j m).map encN) σ = some (encRows j (rows.drop j), σ)
  | 0, j, h => by
    rw [List.drop_eq_nil_of_le (by lia)]
    rfl
  | m + 1, j, h => by
    have hj : j < rows.length := by lia
    rw [List.range'_succ, List.map_cons, List.drop_eq_getElem_cons hj]
    have hg : idx ((rows.map some ++ [last]).map encO) ((j : Nat) : Int) = some (encN rows[j]) := by
      rw [idx_nat _ _ (by lia), List.getElem?_map, List.getElem?_append_left (by simpa using hj), List.getElem?_map, List.getElem?_eq_getElem hj]
      rfl
    have he : xtup (lcons (xname 1) (lcons (xsub (bname 0) (bname 1)) lnil)) ([.frz (encG (rows.map some ++ [last]))] ++ [encN j].map .frz) σ = some (.tup [encN j, encN rows[j]], σ) := by
      have e1 : xsub (bname 0) (bname 1) ([.frz (encG (rows.map some ++ [last]))] ++ [encN j].map .frz) σ = some (encN rows[j], σ) := by
        show (match idx ((rows.map some ++ [last]).map encO) ((j : Nat) : Int) with | some r => some (r, σ) | none => none) = _
        rw [hg]
      exact xtup_eq (lcons_eq rfl (lcons_eq e1 rfl)) (by simp)
    exact compL_true rfl rfl he (comp_at rows last σ hl m (j + 1) (by lia))
theorem rangeD_nat (n : Nat) : rangeD (n : Int) = (List.range' 0 n).map encN := by
  unfold rangeD
  rw [List.range_eq_range']
  rfl
theorem op1_eq {g : D → Option D} {f : EX} {ρ : Vars} {σ σ1 : Src} {d r : D} (h : f ρ σ = some (d, σ1)) (h2 : g d = some r) : op1 g f ρ σ = some (r, σ1) := by
  unfold op1
  rw [h]; dsimp only; rw [h2]
theorem op2_eq {g : D → D → Option D} {f1 f2 : EX} {ρ : Vars} {σ σ1 σ2 : Src} {d e r : D} (h1 : f1 ρ σ = some (d, σ1)) (h2 : f2 ρ σ1 = some (e, σ2)) (h3 : g d e = some r) : op2 g f1 f2 ρ σ = some (r, σ2) := by
  unfold op2
  rw [h1]; dsimp only; rw [h2]; dsimp only; rw [h3]
theorem irange_eq {f : EX} {ρ : Vars} {σ σ1 : Src} {n : Nat} (h : f ρ σ = some (.int (n : Int), σ1)) (hn : n ≤ 1000) : irange f ρ σ = some ((List.range' 0 n).map encN, σ1) := by
  unfold irange
  rw [h]; dsimp only; rw [if_pos ⟨by lia, by lia⟩, rangeD_nat]
theorem xcomp_eq {cap : List Nat} {fi : IX} {cb : CB} {t : TX} {f : EX} {ρ : Vars} {σ σ1 σ2 : Src} {ds es : List D} (h1 : fi ρ σ = some (ds, σ1)) (hl : ds.length ≤ 1000) (hc : cap.all (isSet ρ) = true) (h2 : compL cb t f (caps cap ρ) ds σ1 = some (es, σ2)) :
    xcomp cap fi cb t f ρ σ = some (.list es, σ2) := by
  unfold xcomp
  rw [h1]; dsimp only; rw [if_pos ⟨hl, hc⟩, h2]
theorem idx_last (ds : List (Option Nat)) (last : Option Nat) : idx ((ds ++ [last]).map encO) (-1) = some (encO last) := by
  unfold idx
  rw [if_neg (by lia), if_pos ⟨by simp; lia, by lia⟩, List.getElem?_map]
  have : ((-1 : Int) + (((ds ++ [last]).map encO).length : Int)).toNat = ds.length := by simp; lia
  rw [this]
  simp
theorem end_switch (rows : List Nat) (last : Option Nat) (σ : Src) (hl : rows.length ≤ 900) : F_law_end [.str "switch", encG (Tm.switch rows last).goals] σ = some (encT (.switch rows last), σ) := by
  show (match f_law_end (vars0 [.str "switch", encG (rows.map some ++ [last])] 1) σ with | some (.ret d, _, σ) => some (d, σ) | _ => none) = _
  have hG : encG (rows.map some ++ [last]) = .tup ((rows.map some ++ [last]).map encO) := rfl
  have hlen : op2 subD (op1 lenD (bname 1)) (xk (.int 1)) [.frz (.str "switch"), .frz (encG (rows.map some ++ [last])), .un] σ = some (.int (rows.length : Int), σ) := by
    refine op2_eq (op1_eq (d := encG (rows.map some ++ [last])) rfl (r := .int ((rows.length + 1 : Nat) : Int)) ?_) rfl ?_
    · show (if ((rows.map some ++ [last]).map encO).length ≤ 1000 then some (D.int ((rows.map some ++ [last]).map encO).length) else none) = _
      rw [if_pos (by simp; lia)]
      simp
    · show some (D.int (((rows.length + 1 : Nat) : Int) - 1)) = _
      congr 2
      lia
  have hc := xcomp_eq (cap := [1]) (cb := cbname) (t := tt) (irange_eq hlen (by lia)) (by simp; lia) rfl (comp_at rows last σ hl rows.length 0 (by lia))
  rw [List.drop_zero] at hc
  have e2 : sset 2 (cfrz (op1 tupD (xcomp [1] (irange (op2 subD (op1 lenD (bname 1)) (xk (.int 1)))) cbname tt (xtup (lcons (xname 1) (lcons (xsub (bname 0) (bname 1)) lnil)))))) [.frz (.str "switch"), .frz (encG (rows.map some ++ [last])), .un] σ =
      some (.next, [.frz (.str "switch"), .frz (encG (rows.map some ++ [last])), .frz (.tup (encRows 0 rows))], σ) := by
    have := op1_eq (g := tupD) (r := .tup (encRows 0 rows)) hc (by
      show (if (encRows 0 rows).length ≤ 1000 then some (D.tup (encRows 0 rows)) else none) = _
      rw [if_pos (by rw [encRows_len]; lia)])
    unfold sset cfrz
    rw [this]
    rfl
  have e3 : xsub (bname 1) (op1 negD (xk (.int 1))) [.frz (.str "switch"), .frz (encG (rows.map some ++ [last])), .frz (.tup (encRows 0 rows))] σ = some (encO last, σ) := by
    show (match idx ((rows.map some ++ [last]).map encO) (-1) with | some r => some (r, σ) | none => none) = _
    rw [idx_last]
  have e4 : (sseq (sret (xtup (lcons (xk (.str "switch")) (lcons (xtup (lcons (xk (.str "copy")) (lcons (xtup (lcons (xk (.int 1)) (lcons (xtup lnil) lnil))) lnil))) (lcons (xname 2) (lcons (xsub (bname 1) (op1 negD (xk (.int 1)))) lnil)))))) snil) [.frz (.str "switch"), .frz (encG (rows.map some ++ [last])), .frz (.tup (encRows 0 rows))] σ =
      some (.ret (encT (.switch rows last)), [.frz (.str "switch"), .frz (encG (rows.map some ++ [last])), .frz (.tup (encRows 0 rows))], σ) := by
    refine sseq_ret ?_
    unfold sret
    rw [xtup_eq (ds := [.str "switch", cpD, .tup (encRows 0 rows), encO last]) (lcons_eq rfl (lcons_eq rfl (lcons_eq rfl (lcons_eq e3 rfl)))) (by simp)]
    rfl
  unfold f_law_end
  rw [sseq_next ((sif_f (show t2 eqD (bname 0) (xk (.str "goto")) (vars0 [.str "switch", encG (rows.map some ++ [last])] 1) σ = some (false, σ) from rfl)).trans rfl)]
  rw [sseq_ret ((sif_t (show t2 eqD (bname 0) (xk (.str "switch")) (vars0 [.str "switch", encG (rows.map some ++ [last])] 1) σ = some (true, σ) from rfl)).trans ((sseq_next e2).trans e4))]
theorem end_ok (t : Tm) (σ : Src) (h : t.goals.length ≤ 900) : F_law_end [.str t.word, encG t.goals] σ = some (encT t, σ) := by
  cases t with
  | switch rows last => exact end_switch rows last σ (by simp [glG, glS, glC, glD, glA, glR, glP, glU] at h; lia)
  | goto g => exact end_simple _ σ (fun _ _ e => by cases e)
  | call g => exact end_simple _ σ (fun _ _ e => by cases e)
  | drop g => exact end_simple _ σ (fun _ _ e => by cases e)
  | assert g => exact end_simple _ σ (fun _ _ e => by cases e)
  | panic => exact end_simple _ σ (fun _ _ e => by cases e)
  | ret => exact end_simple _ σ (fun _ _ e => by cases e)
  | unr => exact end_simple _ σ (fun _ _ e => by cases e)
end Mine
end
section
open PySem
set_option linter.unusedVariables false
namespace Mine
theorem mem_eachGo {g : Nat} : ∀ {gs : List (Option Nat)} {acc : List Nat}, g ∈ eachGo acc gs ↔ g ∈ acc ∨ some g ∈ gs
  | [], acc => by simp [eachGo_z]
  | none :: r, acc => by rw [eachGo_n, mem_eachGo]; simp
  | some a :: r, acc => by
    rw [eachGo_s]
    split
    · rename_i h
      rw [mem_eachGo]
      simp only [List.mem_cons, Option.some.injEq]
      constructor
      · rintro (h1 | h1)
        · exact .inl h1
        · exact .inr (.inr h1)
      · rintro (h1 | rfl | h1)
        · exact .inl h1
        · exact .inl (by simpa using h)
        · exact .inr h1
    · rw [mem_eachGo]
      simp only [List.mem_append, List.mem_cons, List.not_mem_nil, or_false, Option.some.injEq]
      constructor
      · rintro ((h1 | h1) | h1)
        · exact .inl h1
        · exact .inr (.inl h1)
        · exact .inr (.inr h1)
      · rintro (h1 | h1 | h1)
        · exact .inl (.inl h1)
        · exact .inl (.inr h1)
        · exact .inr h1
theorem mem_each {g : Nat} {gs : List (Option Nat)} : g ∈ each gs ↔ some g ∈ gs := by unfold each; rw [mem_eachGo]; simp
theorem xcall_eq {F : List D → Src → Option (D × Src)} {g : LX} {ρ : Vars} {σ σ1 : Src} {ds : List D} (h : g ρ σ = some (ds, σ1)) : xcall F g ρ σ = F ds σ1 := by unfold xcall; rw [h]
theorem sret_eq {f : EX} {ρ : Vars} {σ σ1 : Src} {d : D} (h : f ρ σ = some (d, σ1)) : sret f ρ σ = some (.ret d, ρ, σ1) := by unfold sret; rw [h]
theorem tand_t {t u : TX} {ρ : Vars} {σ σ1 : Src} (h : t ρ σ = some (true, σ1)) : tand t u ρ σ = u ρ σ1 := by unfold tand; rw [h]
theorem tand_f {t u : TX} {ρ : Vars} {σ σ1 : Src} (h : t ρ σ = some (false, σ1)) : tand t u ρ σ = some (false, σ1) := by unfold tand; rw [h]
noncomputable def plTest : TX := tand (t2 eqD (bname 0) (xk (.str "switch"))) (tand (t2 isntD (xsub (bname 1) (op1 negD (xk (.int 1)))) (xk .none)) (t2 eqD (op1 lenD (xcall F_law_each (lcons (xname 1) lnil))) (xk (.int 1))))
theorem lplain_no (t : Tm) (σ : Src) (h : t.goals.length ≤ 900) (ht : plTest [.frz (.str t.word), .frz (encG t.goals)] σ = some (false, σ)) : F_law_plain [.str t.word, encG t.goals] σ = some (encT t, σ) := by
  show (match f_law_plain [.frz (.str t.word), .frz (encG t.goals)] σ with | some (.ret d, _, σ) => some (d, σ) | _ => none) = _
  unfold plTest at ht
  unfold f_law_plain
  rw [sseq_next ((sif_f ht).trans rfl)]
  have e : xcall F_law_end (lcons (xname 0) (lcons (xname 1) lnil)) [.frz (.str t.word), .frz (encG t.goals)] σ = some (encT t, σ) := (xcall_eq rfl).trans (end_ok t σ h)
  rw [sseq_ret (sret_eq e)]
theorem eqI (a b : Nat) : eqD (.int (a : Int)) (.int (b : Int)) = some (.bool (a == b)) := by
  show some (D.bool (PyData.eqv (.int (a : Int)) (.int (b : Int)))) = _
  rw [eqv_int]
theorem pl_len (t : Tm) (σ : Src) (h : t.goals.length ≤ 900) : t2 eqD (op1 lenD (xcall F_law_each (lcons (xname 1) lnil))) (xk (.int 1)) [.frz (.str t.word), .frz (encG t.goals)] σ = some ((each t.goals).length == 1, σ) := by
  have e1 : xcall F_law_each (lcons (xname 1) lnil) [.frz (.str t.word), .frz (encG t.goals)] σ = some (encL (each t.goals), σ) := (xcall_eq rfl).trans (each_ok t.goals σ h)
  have hl := each_len t.goals
  have e2 := op1_eq (g := lenD) (r := .int ((each t.goals).length : Nat)) e1 (by
    show (if ((each t.goals).map encN).length ≤ 1000 then some (D.int ((each t.goals).map encN).length) else none) = _
    rw [if_pos (by rw [List.length_map]; lia), List.length_map])
  exact t2_eq e2 rfl (eqI _ 1)
theorem slT_last (ds : List D) (d : D) : slT (some (-1)) none (ds ++ [d]) = [d] := by
  unfold slT
  have e1 : Builtin.Slice.sliceAdjust (some (-1)) none 1 ((ds ++ [d]).length : Nat) = ((ds.length : Int), ((ds.length + 1 : Nat) : Int)) := by
    unfold Builtin.Slice.sliceAdjust
    simp
    lia
  rw [e1]
  have e2 : Builtin.Slice.slicePlaces (ds.length : Int) ((ds.length + 1 : Nat) : Int) 1 = 1 := by
    unfold Builtin.Slice.slicePlaces
    rw [if_pos (by lia), if_pos (by lia)]
    simp
  dsimp only
  rw [e2]
  show [0].filterMap _ = _
  simp
theorem lplain_ok (t : Tm) (σ : Src) (h : t.goals.length ≤ 900) : F_law_plain [.str t.word, encG t.goals] σ = some (encT (plainT t), σ) := by
  cases t with
  | switch rows last =>
    have hw : t2 eqD (bname 0) (xk (.str "switch")) [.frz (.str (Tm.switch rows last).word), .frz (encG (Tm.switch rows last).goals)] σ = some (true, σ) := rfl
    have hg : xsub (bname 1) (op1 negD (xk (.int 1))) [.frz (.str (Tm.switch rows last).word), .frz (encG (Tm.switch rows last).goals)] σ = some (encO last, σ) := by
      show (match idx ((rows.map some ++ [last]).map encO) (-1) with | some r => some (r, σ) | none => none) = _
      rw [idx_last]
    have hp := pl_len (.switch rows last) σ h
    show _ = some (encT (plainW (.switch rows last) last (each (Tm.switch rows last).goals)), σ)
    cases last with
    | none =>
      have e : plainW (.switch rows none) none (each (Tm.switch rows none).goals) = .switch rows none := rfl
      rw [e]
      refine lplain_no _ σ h ?_
      unfold plTest
      rw [tand_t hw]
      exact tand_f (t2_eq hg rfl rfl)
    | some l =>
      have hm : l ∈ each (Tm.switch rows (some l)).goals := mem_each.mpr (by simp [glG, glS, glC, glD, glA, glR, glP, glU])
      have hi : tand (t2 isntD (xsub (bname 1) (op1 negD (xk (.int 1)))) (xk .none)) (t2 eqD (op1 lenD (xcall F_law_each (lcons (xname 1) lnil))) (xk (.int 1))) [.frz (.str (Tm.switch rows (some l)).word), .frz (encG (Tm.switch rows (some l)).goals)] σ = some ((each (Tm.switch rows (some l)).goals).length == 1, σ) :=
        (tand_t (t2_eq hg rfl rfl)).trans hp
      generalize each (Tm.switch rows (some l)).goals = E at hm hi
      by_cases hE : E.length = 1
      · match E, hE, hm, hi with
        | [x], _, hm, hi =>
          have hx : l = x := by simpa using hm
          subst hx
          show (match f_law_plain [.frz (.str (Tm.switch rows (some l)).word), .frz (encG (Tm.switch rows (some l)).goals)] σ with | some (.ret d, _, σ) => some (d, σ) | _ => none) = some (encT (.goto l), σ)
          unfold f_law_plain
          have hs : xslc (bname 1) (op1 negD (xk (.int 1))) (xk .none) [.frz (.str (Tm.switch rows (some l)).word), .frz (encG (Tm.switch rows (some l)).goals)] σ = some (encG [some l], σ) := by
            show (match (if ((rows.map some ++ [some l]).map encO).length ≤ 1000 then some (D.tup (slT (some (-1)) none ((rows.map some ++ [some l]).map encO))) else none) with | some r => some (r, σ) | none => none) = _
            rw [if_pos (by simp [glG, glS, glC, glD, glA, glR, glP, glU] at h ⊢; lia), List.map_append]
            show some (D.tup (slT (some (-1)) none ((rows.map some).map encO ++ [encO (some l)])), σ) = _
            rw [slT_last]
            rfl
          have e : xcall F_law_end (lcons (xk (.str "goto")) (lcons (xslc (bname 1) (op1 negD (xk (.int 1))) (xk .none)) lnil)) [.frz (.str (Tm.switch rows (some l)).word), .frz (encG (Tm.switch rows (some l)).goals)] σ = some (encT (.goto l), σ) :=
            (xcall_eq (lcons_eq rfl (lcons_eq hs rfl))).trans (end_ok (.goto l) σ (by simp [glG, glS, glC, glD, glA, glR, glP, glU]))
          rw [sseq_ret ((sif_t ((tand_t hw).trans hi)).trans (sseq_ret (sret_eq e)))]
      · have e : plainW (.switch rows (some l)) (some l) E = .switch rows (some l) := by
          match E, hE with
          | [], _ => rfl
          | _ :: _ :: _, _ => rfl
        rw [e]
        refine lplain_no _ σ h ?_
        unfold plTest
        rw [tand_t hw, hi]
        simp [hE]
  | goto g => exact lplain_no _ σ h rfl
  | call g => exact lplain_no _ σ h rfl
  | drop g => exact lplain_no _ σ h rfl
  | assert g => exact lplain_no _ σ h rfl
  | panic => exact lplain_no _ σ h rfl
  | ret => exact lplain_no _ σ h rfl
  | unr => exact lplain_no _ σ h rfl
end Mine
end
section
open PySem
set_option linter.unusedVariables false
namespace Mine
/-! ## a toolbox to run the pure functions -/
section
variable {ρ ρ' : Vars} {σ σ1 σ2 : Src}
theorem cfrz_eq {f : EX} {d : D} (h : f ρ σ = some (d, σ1)) : cfrz f ρ σ = some (.frz d, σ1) := by unfold cfrz; rw [h]
theorem cown_eq {f : EX} {d : D} (h : f ρ σ = some (d, σ1)) : cown f ρ σ = some (.own d, σ1) := by unfold cown; rw [h]
theorem sset_eq {i : Nat} {f : CXf} {k : Cell} (h : f ρ σ = some (k, σ1)) : sset i f ρ σ = some (.next, ρ.set i k, σ1) := by unfold sset; rw [h]
theorem xlist_eq {g : LX} {ds : List D} (h : g ρ σ = some (ds, σ1)) (hl : ds.length ≤ 1000) : xlist g ρ σ = some (.list ds, σ1) := by
  unfold xlist; rw [h]; dsimp only; rw [if_pos hl]
theorem xsub_eq {f g : EX} {d e r : D} (h1 : f ρ σ = some (d, σ1)) (h2 : g ρ σ1 = some (e, σ2)) (h3 : subS σ2 d e = some r) : xsub f g ρ σ = some (r, σ2) := by
  unfold xsub; rw [h1]; dsimp only; rw [h2]; dsimp only; rw [h3]
theorem xattr_eq {k : Nat} {f : EX} {ds : List D} {d : D} (h : f ρ σ = some (.body ds, σ1)) (hk : ds[k]? = some d) : xattr k f ρ σ = some (d, σ1) := by
  unfold xattr; rw [h]; dsimp only; rw [hk]
theorem ival_list {f : EX} {ds : List D} (h : f ρ σ = some (.list ds, σ1)) : ival f ρ σ = some (ds, σ1) := by unfold ival; rw [h]
theorem sfor_eq {fi : IX} {tg : TG} {b : SF} {ds : List D} {r : Option (Fl × Vars × Src)} (h : fi ρ σ = some (ds, σ1)) (h2 : forL tg b ds ρ σ1 = r) : sfor fi tg b ρ σ = r := by unfold sfor; rw [h]; exact h2
theorem sforE_eq {fi : IX} {tg : TG} {b : SF} {ds : List D} {r : Option (Fl × Vars × Src)} (h : fi ρ σ = some (ds, σ1)) (h2 : forL tg b (enumD 0 ds) ρ σ1 = r) : sforE fi tg b ρ σ = r := by unfold sforE; rw [h]; exact h2
theorem ienum_eq {f : EX} {ds : List D} (h : f ρ σ = some (.list ds, σ1)) : ienum f ρ σ = some (ds, σ1) := by unfold ienum; rw [h]
theorem sseq_cont {f g : SF} (h : f ρ σ = some (.cont, ρ', σ1)) : sseq f g ρ σ = some (.cont, ρ', σ1) := by unfold sseq; rw [h]
theorem sseq_brk {f g : SF} (h : f ρ σ = some (.brk, ρ', σ1)) : sseq f g ρ σ = some (.brk, ρ', σ1) := by unfold sseq; rw [h]
theorem seq1 {f g : SF} {r : Option (Fl × Vars × Src)} (h : f ρ σ = some (.next, ρ', σ1)) (h2 : g ρ' σ1 = r) : sseq f g ρ σ = r := (sseq_next h).trans h2
theorem if_t {t : TX} {f g : SF} {r : Option (Fl × Vars × Src)} (h : t ρ σ = some (true, σ1)) (h2 : f ρ σ1 = r) : sif t f g ρ σ = r := (sif_t h).trans h2
theorem if_f {t : TX} {f g : SF} {r : Option (Fl × Vars × Src)} (h : t ρ σ = some (false, σ1)) (h2 : g ρ σ1 = r) : sif t f g ρ σ = r := (sif_f h).trans h2
theorem tor_t {t u : TX} (h : t ρ σ = some (true, σ1)) : tor t u ρ σ = some (true, σ1) := by unfold tor; rw [h]
theorem tor_f {t u : TX} (h : t ρ σ = some (false, σ1)) : tor t u ρ σ = u ρ σ1 := by unfold tor; rw [h]
theorem tor_bb {t u : TX} {a b : Bool} (h : t ρ σ = some (a, σ)) (h2 : u ρ σ = some (b, σ)) : tor t u ρ σ = some (a || b, σ) := by
  unfold tor; rw [h]; cases a <;> simp [h2]
theorem tand_bb {t u : TX} {a b : Bool} (h : t ρ σ = some (a, σ)) (h2 : u ρ σ = some (b, σ)) : tand t u ρ σ = some (a && b, σ) := by
  unfold tand; rw [h]; cases a <;> simp [h2]
theorem tnot_eq {t : TX} {a : Bool} (h : t ρ σ = some (a, σ1)) : tnot t ρ σ = some (!a, σ1) := by unfold tnot; rw [h]
theorem tval_eq {f : EX} {b : Bool} (h : f ρ σ = some (.bool b, σ1)) : tval f ρ σ = some (b, σ1) := by unfold tval; rw [h]
theorem xif_t {t : TX} {f g : EX} {r : Option (D × Src)} (h : t ρ σ = some (true, σ1)) (h2 : f ρ σ1 = r) : xif t f g ρ σ = r := by unfold xif; rw [h]; exact h2
theorem xif_f {t : TX} {f g : EX} {r : Option (D × Src)} (h : t ρ σ = some (false, σ1)) (h2 : g ρ σ1 = r) : xif t f g ρ σ = r := by unfold xif; rw [h]; exact h2
theorem xand_t {f g : EX} {r : Option (D × Src)} (h : f ρ σ = some (.bool true, σ1)) (h2 : g ρ σ1 = r) : xand f g ρ σ = r := by unfold xand; rw [h]; exact h2
theorem sappend_eq {i : Nat} {f : EX} {ds : List D} {d : D} (h : ρ[i]? = some (.own (.list ds))) (h2 : f ρ σ = some (d, σ1)) (hl : ds.length ≤ 1000) : sappend i f ρ σ = some (.next, ρ.set i (.own (.list (ds ++ [d]))), σ1) := by
  unfold sappend; rw [h]; dsimp only; rw [h2]; dsimp only; rw [if_pos hl]
theorem sput_eq {i : Nat} {fk fv : EX} {ks : List Int} {ds : List D} {k : Int} {d : D} (h1 : fv ρ σ = some (d, σ1)) (h2 : fk ρ σ1 = some (.int k, σ2)) (h3 : ρ[i]? = some (.own (.dict ks ds))) (hl : ds.length ≤ 1000) :
    sput i fk fv ρ σ = some (.next, ρ.set i (.own (.dict (dput ks ds k d).1 (dput ks ds k d).2)), σ2) := by
  unfold sput; rw [h1]; dsimp only; rw [h2]; dsimp only; rw [h3]; dsimp only; rw [if_pos hl]
theorem spop_eq {j i : Nat} {d : D} {ds : List D} (h : ρ[i]? = some (.own (.list (d :: ds)))) (hl : ds.length ≤ 900) : spop j i ρ σ = some (.next, (ρ.set i (.own (.list ds))).set j (.frz d), σ) := by
  unfold spop; rw [h]; dsimp only; rw [if_pos hl]
theorem xget_eq {f fk fe : EX} {σ3 : Src} {d k e r : D} (h1 : f ρ σ = some (d, σ1)) (h2 : fk ρ σ1 = some (k, σ2)) (h3 : fe ρ σ2 = some (e, σ3)) (h4 : getD' d k e = some r) : xget f fk fe ρ σ = some (r, σ3) := by
  unfold xget; rw [h1]; dsimp only; rw [h2]; dsimp only; rw [h3]; dsimp only; rw [h4]
theorem fdef_eq {k m : Nat} {f : SF} {ds : List D} {d : D} (hk : ds.length = k) (h : f (vars0 ds m) σ = some (.ret d, ρ, σ1)) : fdef k m f ds σ = some (d, σ1) := by
  unfold fdef; rw [if_pos hk, h]
theorem sunp_eq {is : List Nat} {f : EX} {d : D} (h : f ρ σ = some (d, σ1)) (h2 : ttup is d ρ = some ρ') : sunp is f ρ σ = some (.next, ρ', σ1) := by
  unfold sunp; rw [h]; dsimp only; rw [h2]
end
theorem cons_map {α β : Type} {f : α → β} {d : β} {ds : List β} {l : List α} (h : d :: ds = l.map f) : ∃ a l', l = a :: l' ∧ d = f a ∧ ds = l'.map f := by
  cases l with
  | nil => cases h
  | cons a l' => cases h; exact ⟨a, l', rfl, rfl, rfl⟩
/-- a while loop, by a measure -/
theorem whileL_inv {t : TX} {b : SF} {σ : Src} (I : Nat → Vars → Prop) (O : Vars → Prop)
    (step : ∀ k ρ, I k ρ → (t ρ σ = some (false, σ) ∧ O ρ) ∨ (t ρ σ = some (true, σ) ∧ ∃ ρ', (b ρ σ = some (.brk, ρ', σ) ∧ O ρ') ∨ ((b ρ σ = some (.next, ρ', σ) ∨ b ρ σ = some (.cont, ρ', σ)) ∧ ∃ k', k' < k ∧ I k' ρ'))) :
    ∀ (f k : Nat) (ρ : Vars), k < f → I k ρ → ∃ ρ', whileL t b f ρ σ = some (.next, ρ', σ) ∧ O ρ'
  | 0, k, ρ, hk, h => absurd hk (Nat.not_lt_zero _)
  | f + 1, k, ρ, hk, h => by
    rw [whileL_succ]
    rcases step k ρ h with ⟨e, o⟩ | ⟨e, ρ', ⟨h1, o⟩ | ⟨h1, k', hk', h2⟩⟩
    · rw [e]; exact ⟨ρ, rfl, o⟩
    · rw [e]; dsimp only; rw [h1]; exact ⟨ρ', rfl, o⟩
    · rw [e]; dsimp only
      obtain ⟨ρ'', h3, h4⟩ := whileL_inv I O step f k' ρ' (by lia) h2
      rcases h1 with h1 | h1 <;> rw [h1] <;> exact ⟨ρ'', h3, h4⟩
end Mine
end
section
open PySem
set_option linter.unusedVariables false
namespace Mine
/-! ## the scene, typed -/
structure Blk where
  lines : Nat
  t : Tm
abbrev Scene := List Blk
noncomputable def tm (s : Scene) (x : Nat) : Tm := match s[x]? with
  | some b => b.t
  | none => .ret
noncomputable def ln (s : Scene) (x : Nat) : Nat := match s[x]? with
  | some b => b.lines
  | none => 0
noncomputable def succs (s : Scene) (x : Nat) : List Nat := each (tm s x).goals
structure OkS (s : Scene) : Prop where
  len : s.length ≤ 5
  pos : 0 < s.length
  lt : ∀ x g, some g ∈ (tm s x).goals → g < s.length
  few : ∀ x, (tm s x).goals.length ≤ 4
  lns : ∀ x, ln s x ≤ 2
noncomputable def encLines (k : Nat) : D := .list (List.replicate k (.tup [.str "nop"]))
noncomputable def encBlk (b : Blk) : D := .tup [encLines b.lines, .str b.t.word, encG b.t.goals]
noncomputable def encScene (s : Scene) : D := .list (s.map encBlk)
noncomputable def blkB (b : Blk) : D := .list [encLines b.lines, encT b.t]
noncomputable def toldL : D := .list [.tup [.tup [.str "tuple", .tup []], .bool true, .none], .tup [.tup [.str "bool"], .bool true, .none]]
noncomputable def encBodyOf (bs : List D) : D := .body [.str "f", .int 0, toldL, .list bs, .dict [] []]
noncomputable def encBody (s : Scene) : D := encBodyOf (s.map blkB)
theorem at_blk {s : Scene} {x : Nat} (h : x < s.length) : s[x]? = some ⟨ln s x, tm s x⟩ := by
  unfold ln tm
  rw [List.getElem?_eq_getElem h]
theorem idx_map {α : Type} (f : α → D) (l : List α) (x : Nat) (h : x ≤ 1000) : idx (l.map f) (x : Int) = (l[x]?).map f := by
  rw [idx_nat _ _ h, List.getElem?_map]
theorem lt_of_blk {s : Scene} (ok : OkS s) {x : Nat} (h : x < s.length) : x ≤ 1000 := by have := ok.len; lia
section
variable {s : Scene} {ρ : Vars} {σ : Src}
theorem blocks_eq (h0 : ρ[0]? = some (.frz (encBody s))) : xattr 3 (xname 0) ρ σ = some (.list (s.map blkB), σ) :=
  xattr_eq (ds := [.str "f", .int 0, toldL, .list (s.map blkB), .dict [] []]) (by unfold xname; rw [h0]; rfl) rfl
theorem blk_eq {f : EX} {x : Nat} (ok : OkS s) (h0 : ρ[0]? = some (.frz (encBody s))) (hf : f ρ σ = some (encN x, σ)) (hx : x < s.length) :
    xsub (xattr 3 (xname 0)) f ρ σ = some (.list [encLines (ln s x), encT (tm s x)], σ) := by
  refine xsub_eq (blocks_eq h0) hf ?_
  show idx _ _ = _
  rw [idx_map _ _ _ (lt_of_blk ok hx), at_blk hx]
  rfl
theorem term_eq {f : EX} {x : Nat} (ok : OkS s) (h0 : ρ[0]? = some (.frz (encBody s))) (hf : f ρ σ = some (encN x, σ)) (hx : x < s.length) :
    xsub (xsub (xattr 3 (xname 0)) f) (xk (.int 1)) ρ σ = some (encT (tm s x), σ) :=
  xsub_eq (blk_eq ok h0 hf hx) rfl rfl
theorem succs_eq {f : EX} {x : Nat} (ok : OkS s) (h0 : ρ[0]? = some (.frz (encBody s))) (hf : f ρ σ = some (encN x, σ)) (hx : x < s.length) :
    xcall Fsuccessors (lcons (xsub (xsub (xattr 3 (xname 0)) f) (xk (.int 1))) lnil) ρ σ = some (encL (succs s x), σ) :=
  (xcall_eq (lcons_eq (term_eq ok h0 hf hx) rfl)).trans (succ_ok _ _ (by have := ok.few x; lia))
end
theorem succs_lt {s : Scene} (ok : OkS s) {x g : Nat} (h : g ∈ succs s x) : g < s.length := ok.lt x g (mem_each.mp h)
theorem succs_nodup (s : Scene) (x : Nat) : (succs s x).Nodup := each_nodup _
theorem succs_len {s : Scene} (ok : OkS s) (x : Nat) : (succs s x).length ≤ 4 := Nat.le_trans (each_len _) (ok.few x)
/-! ## dicts of ints -/
noncomputable def castL (l : List Nat) : List Int := l.map fun (x : Nat) => (x : Int)
theorem castL_contains (l : List Nat) (g : Nat) : (castL l).contains (g : Int) = l.contains g := by
  induction l with
  | nil => rfl
  | cons a l ih =>
    show ((castL (a :: l)).contains (g : Int)) = _
    unfold castL at ih ⊢
    rw [List.map_cons, List.contains_cons, List.contains_cons, ih]
    congr 1
    by_cases e : g = a
    · subst e; simp
    · have : ¬ (g : Int) = (a : Int) := by lia
      rw [beq_eq_false_iff_ne.mpr this, beq_eq_false_iff_ne.mpr e]
theorem dput_new {ks : List Int} {ds : List D} {k : Int} {d : D} (h : ks.contains k = false) : dput ks ds k d = (ks ++ [k], ds ++ [d]) := by unfold dput; rw [h]; rfl
noncomputable def encM (q : List Nat) : D := .dict (castL q) (q.map fun _ => .bool true)
theorem inD_encM (q : List Nat) (g : Nat) : inD (encN g) (encM q) = some (.bool (q.contains g)) := by
  show some (D.bool ((castL q).contains (g : Int))) = _
  rw [castL_contains]
theorem ninD_encM (q : List Nat) (g : Nat) : ninD (encN g) (encM q) = some (.bool (!q.contains g)) := by unfold ninD; rw [inD_encM]
theorem encM_put {q : List Nat} {g : Nat} (h : q.contains g = false) : D.dict (dput (castL q) (q.map fun _ => .bool true) g (.bool true)).1 (dput (castL q) (q.map fun _ => .bool true) g (.bool true)).2 = encM (q ++ [g]) := by
  rw [dput_new (by rw [castL_contains]; exact h)]
  unfold encM castL
  simp
theorem sput_encM {ρ : Vars} {σ : Src} {i : Nat} {fk : EX} {q : List Nat} {g : Nat} (h : ρ[i]? = some (.own (encM q))) (hk : fk ρ σ = some (encN g, σ)) (hl : q.length ≤ 1000) (hg : q.contains g = false) :
    sput i fk (xk (.bool true)) ρ σ = some (.next, ρ.set i (.own (encM (q ++ [g]))), σ) := by
  have := sput_eq (fv := xk (.bool true)) (σ := σ) rfl hk h (by rw [List.length_map]; exact hl)
  rw [this, encM_put hg]
theorem sappend_encL {ρ : Vars} {σ : Src} {i : Nat} {f : EX} {l : List Nat} {g : Nat} (h : ρ[i]? = some (.own (encL l))) (hf : f ρ σ = some (encN g, σ)) (hl : l.length ≤ 1000) :
    sappend i f ρ σ = some (.next, ρ.set i (.own (encL (l ++ [g]))), σ) := by
  have := sappend_eq h hf (by rw [List.length_map]; exact hl)
  rw [this]
  unfold encL
  rw [List.map_append]
  rfl
/-! ## come_to -/
structure GoodQ (n : Nat) (q : List Nat) : Prop where
  nd : q.Nodup
  lt : ∀ x ∈ q, x < n
theorem GoodQ.len {n : Nat} {q : List Nat} (h : GoodQ n q) : q.length ≤ n := by
  have := h.nd.length_le_of_subset (l₂ := List.range n) fun x hx => List.mem_range.mpr (h.lt x hx)
  simpa using this
theorem GoodQ.go {n : Nat} {q gs : List Nat} (h : GoodQ n q) (hg : ∀ g ∈ gs, g < n) : GoodQ n (eachGo q (gs.map some)) := by
  refine ⟨eachGo_nodup _ _ h.nd, fun x hx => ?_⟩
  rcases mem_eachGo.mp hx with h1 | h1
  · exact h.lt x h1
  · exact hg x (by simpa using h1)
noncomputable def bfs (s : Scene) : Nat → Nat → List Nat → List Nat
  | 0, _, q => q
  | f + 1, i, q => match q[i]? with
    | some x => bfs s f (i + 1) (eachGo q ((succs s x).map some))
    | none => q
theorem bfs_succ {s : Scene} {f i : Nat} {q : List Nat} : Mine.bfs s (f + 1) i q = match q[i]? with
    | some x => Mine.bfs s f (i + 1) (eachGo q ((succs s x).map some))
    | none => q := rfl
theorem eachGo_prefix : ∀ (gs : List (Option Nat)) (q : List Nat), q <+: eachGo q gs
  | [], q => List.prefix_refl _
  | none :: gs, q => eachGo_prefix gs q
  | some g :: gs, q => by
    rw [eachGo_s]
    split
    · exact eachGo_prefix gs q
    · exact (List.prefix_append _ _).trans (eachGo_prefix gs _)
theorem eachGo_some (q gs : List Nat) (g : Nat) : eachGo q ((g :: gs).map some) = if q.contains g then eachGo q (gs.map some) else eachGo (q ++ [g]) (gs.map some) := rfl
noncomputable def ctIn : SF := (sseq (sif (t2 ninD (bname 5) (bname 1)) (sseq (sput 1 (xname 5) (xk (.bool true)))
  (sseq (sappend 3 (xname 5))
  snil)) snil)
  snil)
theorem ct_inner {s : Scene} (ok : OkS s) (B F X : Cell) (σ : Src) (i : Nat) (res : List Nat) {gs q : List Nat} {j : Cell} (h : eachGo q (gs.map some) = res) (hi : i ≤ q.length) (hq : GoodQ s.length q) (hg : ∀ g ∈ gs, g < s.length) :
    ∃ j', forL (tname 5) ctIn (gs.map encN) [B, .own (encM q), F, .own (encL (q.drop i)), X, j] σ = some (.next, [B, .own (encM res), F, .own (encL (res.drop i)), X, j'], σ) := by
  refine gen ?_; intro GG kGG
  obtain ⟨ρ', e, gs', q', j', e1, e2, e3, e4, e5, e6⟩ := forL_inv (tg := tname 5) (body := ctIn) (σ := σ) (fun ds ρ => ∃ gs q j, ds = gs.map encN ∧ ρ = [B, .own (encM q), F, .own (encL (q.drop i)), X, j] ∧ eachGo q (gs.map some) = res ∧ i ≤ q.length ∧ GoodQ s.length q ∧ ∀ g ∈ gs, g < s.length)
    (fun d ds ρ hI => by
      obtain ⟨gs, q, j, h1, h2, h3, h4, h5, h6⟩ := hI
      obtain ⟨g, gs, rfl, rfl, rfl⟩ := cons_map h1
      subst h2
      have hl := h5.len
      have hn := ok.len
      refine ⟨[B, .own (encM q), F, .own (encL (q.drop i)), X, .frz (encN g)], ?_⟩
      have ht : t2 ninD (bname 5) (bname 1) [B, .own (encM q), F, .own (encL (q.drop i)), X, .frz (encN g)] σ = some (!q.contains g, σ) := t2_eq rfl rfl (ninD_encM q g)
      rw [eachGo_some] at h3
      cases hb : q.contains g with
      | true =>
        rw [hb] at ht h3
        refine ⟨[B, .own (encM q), F, .own (encL (q.drop i)), X, .frz (encN g)], rfl, .inl ?_, gs, q, _, rfl, rfl, h3, h4, h5, fun x hx => h6 x (.tail _ hx)⟩
        exact seq1 (if_f ht rfl) rfl
      | false =>
        rw [hb] at ht h3
        refine ⟨[B, .own (encM (q ++ [g])), F, .own (encL ((q ++ [g]).drop i)), X, .frz (encN g)], rfl, .inl ?_, gs, q ++ [g], _, rfl, rfl, h3, by simp; lia, ?_, fun x hx => h6 x (.tail _ hx)⟩
        · refine seq1 (if_t ht (seq1 (sput_encM (q := q) (g := g) rfl rfl (by lia) hb) (seq1 (sappend_encL (l := q.drop i) (g := g) rfl rfl (by rw [List.length_drop]; lia)) rfl))) ?_
          rw [List.drop_append_of_le_length h4]
          rfl
        · have := h5.go (gs := [g]) (fun x hx => h6 x (by simp at hx; subst hx; exact .head _))
          rw [eachGo_some, hb] at this
          exact this)
    ⟨gs, q, j, rfl, rfl, h, hi, hq, hg⟩
  have : gs' = [] := by simpa using e1.symm
  subst this
  subst e3
  refine kGG ?_; clear kGG
  exact ⟨j', e2 ▸ e⟩
theorem neD_encL_nil {ρ : Vars} {σ : Src} {l : List Nat} {i : Nat} (h : ρ[i]? = some (.own (encL l))) : t2 neD (bname i) (xlist lnil) ρ σ = some (!l.isEmpty, σ) :=
  t2_eq (show bname i ρ σ = some (encL l, σ) by unfold bname; rw [h]) rfl (neD_nil l)
theorem come_ok {s : Scene} (ok : OkS s) (σ : Src) : Fcome_to [encBody s] σ = some (encL (bfs s s.length 0 [0]), σ) := by
  refine gen ?_; intro GG kGG
  have hn := ok.len
  have hw : ∃ ρ', whileL (t2 neD (bname 3) (xlist lnil)) (sseq (spop 4 3)
      (sseq (sappend 2 (xname 4))
      (sseq (sfor (ival (xcall Fsuccessors (lcons (xsub (xsub (xattr 3 (xname 0)) (bname 4)) (xk (.int 1))) lnil))) (tname 5) ctIn)
      snil))) 64 [.frz (encBody s), .own (encM [0]), .own (encL []), .own (encL [0]), .un, .un] σ = some (.next, ρ', σ) ∧ ∃ j1 j2 j3 j4, ρ' = [.frz (encBody s), j1, .own (encL (bfs s s.length 0 [0])), j2, j3, j4] := by
    refine whileL_inv (fun k ρ => ∃ i q j4 j5, ρ = [.frz (encBody s), .own (encM q), .own (encL (q.take i)), .own (encL (q.drop i)), j4, j5] ∧ k + i = s.length ∧ i ≤ q.length ∧ GoodQ s.length q ∧ bfs s k i q = bfs s s.length 0 [0])
      _ (fun k ρ hmm => ?_) 64 s.length _ (by lia) ⟨0, [0], .un, .un, rfl, rfl, by simp, ⟨by simp, fun x hx => by simp at hx; subst hx; exact ok.pos⟩, rfl⟩
    obtain ⟨i, q, j4, j5, h1, h2, h3, h4, h5⟩ := hmm
    subst h1
    have hl := h4.len
    have ht := neD_encL_nil (ρ := [.frz (encBody s), .own (encM q), .own (encL (q.take i)), .own (encL (q.drop i)), j4, j5]) (σ := σ) (i := 3) (l := q.drop i) rfl
    by_cases hi : i = q.length
    · left
      rw [ht]
      subst hi
      refine ⟨by simp, .own (encM q), .own (encL (q.drop q.length)), j4, j5, ?_⟩
      rw [← h5]
      have : bfs s k q.length q = q := by
        cases k with
        | zero => rfl
        | succ k => rw [bfs_succ]; rw [List.getElem?_eq_none (Nat.le_refl _)]
      rw [this, List.take_length]
    · right
      have hi' : i < q.length := by lia
      have hx : q[i] < s.length := h4.lt _ (List.getElem_mem hi')
      have hd : q.drop i = q[i] :: q.drop (i + 1) := List.drop_eq_getElem_cons hi'
      refine ⟨by rw [ht, hd]; rfl, ?_⟩
      obtain ⟨k', rfl⟩ : ∃ k', k = k' + 1 := ⟨k - 1, by lia⟩
      have hb : bfs s (k' + 1) i q = bfs s k' (i + 1) (eachGo q ((succs s q[i]).map some)) := by
        rw [bfs_succ]
        rw [List.getElem?_eq_getElem hi']
      obtain ⟨j', e⟩ := ct_inner ok (.frz (encBody s)) (.own (encL (q.take i ++ [q[i]]))) (.frz (encN q[i])) σ (i + 1) (eachGo q ((succs s q[i]).map some)) (j := j5) rfl hi' h4 (fun g hg => succs_lt ok hg)
      have hpre : q <+: eachGo q ((succs s q[i]).map some) := eachGo_prefix _ _
      have htk : q.take i ++ [q[i]] = (eachGo q ((succs s q[i]).map some)).take (i + 1) := by
        obtain ⟨r, hr⟩ := hpre
        rw [← hr, List.take_append_of_le_length hi', List.take_append_getElem hi']
      refine ⟨[.frz (encBody s), .own (encM (eachGo q ((succs s q[i]).map some))), .own (encL ((eachGo q ((succs s q[i]).map some)).take (i + 1))), .own (encL ((eachGo q ((succs s q[i]).map some)).drop (i + 1))), .frz (encN q[i]), j'],
        .inr ⟨.inl ?_, k', by lia, i + 1, _, _, j', rfl, by lia, ?_, h4.go fun g hg => succs_lt ok hg, hb ▸ h5⟩⟩
      rotate_left
      · exact Nat.le_trans hi' hpre.length_le
      rw [hd, ← htk]
      refine seq1 (spop_eq (d := encN q[i]) (ds := (q.drop (i + 1)).map encN) rfl (by rw [List.length_map, List.length_drop]; lia)) ?_
      refine seq1 (sappend_encL (l := q.take i) (g := q[i]) rfl rfl (by rw [List.length_take]; lia)) ?_
      refine seq1 (sfor_eq (ival_list (succs_eq ok rfl rfl hx)) e) rfl
  obtain ⟨ρ', e, j1, j2, j3, j4, rfl⟩ := hw
  refine kGG ?_; clear kGG
  exact fdef_eq rfl (show fcome_to _ _ = _ from by unfold fcome_to; exact seq1 rfl (seq1 rfl (seq1 e rfl)))
end Mine
end
section
open PySem
set_option linter.unusedVariables false
namespace Mine
/-! ## dicts whose values are a function of the key -/
noncomputable def encF (ks : List Nat) (f : Nat → D) : D := .dict (castL ks) (ks.map f)
noncomputable def updF {α : Type} (f : Nat → α) (g : Nat) (d : α) : Nat → α := fun k => if k = g then d else f k
noncomputable def addK (ks : List Nat) (g : Nat) : List Nat := if ks.contains g then ks else ks ++ [g]
theorem look_encF (ks : List Nat) (f : Nat → D) (g : Nat) : look (castL ks) (ks.map f) (g : Int) = if ks.contains g then some (f g) else none := by
  induction ks with
  | nil => rfl
  | cons a ks ih =>
    unfold look castL at ih ⊢
    rw [List.map_cons, List.map_cons, List.zip_cons_cons, List.lookup_cons, List.contains_cons]
    by_cases e : g = a
    · subst e; simp
    · have h1 : ¬ (g : Int) = (a : Int) := by lia
      rw [beq_eq_false_iff_ne.mpr h1, beq_eq_false_iff_ne.mpr e, Bool.false_or]
      exact ih
theorem zip_upd (ks : List Nat) (f : Nat → D) (g : Nat) (d : D) : ((castL ks).zip (ks.map f)).map (fun p => if p.1 = (g : Int) then d else p.2) = ks.map (updF f g d) := by
  induction ks with
  | nil => rfl
  | cons a ks ih =>
    unfold castL at ih ⊢
    rw [List.map_cons, List.map_cons, List.zip_cons_cons, List.map_cons, ih, List.map_cons]
    congr 1
    unfold updF
    by_cases e : a = g
    · subst e; simp
    · have h1 : ¬ (a : Int) = (g : Int) := by lia
      rw [if_neg h1, if_neg e]
theorem dput_encF (ks : List Nat) (f : Nat → D) (g : Nat) (d : D) : D.dict (dput (castL ks) (ks.map f) g d).1 (dput (castL ks) (ks.map f) g d).2 = encF (addK ks g) (updF f g d) := by
  unfold dput addK encF
  rw [castL_contains]
  cases h : ks.contains g with
  | true =>
    rw [if_pos rfl, if_pos rfl, zip_upd]
  | false =>
    rw [if_neg (by simp), if_neg (by simp)]
    have h1 : ks.map f = ks.map (updF f g d) := by
      refine List.map_congr_left fun a ha => ?_
      unfold updF
      rw [if_neg]
      rintro rfl
      simp [ha] at h
    show D.dict (castL ks ++ [(g : Int)]) (ks.map f ++ [d]) = _
    rw [h1]
    unfold castL
    rw [List.map_append, List.map_append]
    unfold updF
    simp
theorem sput_encF {ρ : Vars} {σ σ1 : Src} {i : Nat} {fk fv : EX} {ks : List Nat} {f : Nat → D} {g : Nat} {d : D} (hv : fv ρ σ = some (d, σ)) (hk : fk ρ σ = some (encN g, σ)) (h : ρ[i]? = some (.own (encF ks f))) (hl : ks.length ≤ 1000) :
    sput i fk fv ρ σ = some (.next, ρ.set i (.own (encF (addK ks g) (updF f g d))), σ) := by
  have := sput_eq hv hk h (by rw [List.length_map]; exact hl)
  rw [this, dput_encF]
theorem inD_encF (ks : List Nat) (f : Nat → D) (g : Nat) : inD (encN g) (encF ks f) = some (.bool (ks.contains g)) := by
  show some (D.bool ((castL ks).contains (g : Int))) = _
  rw [castL_contains]
theorem ninD_encF (ks : List Nat) (f : Nat → D) (g : Nat) : ninD (encN g) (encF ks f) = some (.bool (!ks.contains g)) := by unfold ninD; rw [inD_encF]
theorem subS_encF {σ : Src} {ks : List Nat} {f : Nat → D} {g : Nat} (h : g ∈ ks) : subS σ (encF ks f) (encN g) = some (f g) := by
  show look _ _ _ = _
  rw [look_encF, if_pos (by simpa using h)]
theorem mem_addK {ks : List Nat} {g x : Nat} : x ∈ addK ks g ↔ x ∈ ks ∨ x = g := by
  unfold addK
  split
  · rename_i h
    constructor
    · exact .inl
    · rintro (h1 | rfl)
      · exact h1
      · simpa using h
  · simp
theorem addK_nodup {ks : List Nat} {g : Nat} (h : ks.Nodup) : (addK ks g).Nodup := by
  unfold addK
  split
  · exact h
  · rename_i hc
    rw [List.nodup_append]
    refine ⟨h, by simp, fun a ha b hb e => hc ?_⟩
    simp only [List.mem_singleton] at hb
    subst hb; subst e
    simpa using ha
/-! ## ways_into -/
structure KOk (n : Nat) (ks : List Nat) (cnt : Nat → Nat) : Prop where
  good : GoodQ n ks
  iff : ∀ g, g ∈ ks ↔ 0 < cnt g
noncomputable def tally (s : Scene) (l : List Nat) (g : Nat) : Nat := (l.filter fun x => (succs s x).contains g).length
noncomputable def wcnt (s : Scene) (l : List Nat) (g : Nat) : Nat := (if g = 0 then 1 else 0) + tally s l g
theorem tally_cons (s : Scene) (x : Nat) (l : List Nat) (g : Nat) : tally s (x :: l) g = (if g ∈ succs s x then 1 else 0) + tally s l g := by
  unfold tally
  rw [List.filter_cons]
  by_cases h : g ∈ succs s x
  · rw [if_pos (by simpa using h), if_pos h, List.length_cons]; lia
  · rw [if_neg (by simpa using h), if_neg h]; lia
noncomputable def cntD (cnt : Nat → Nat) : Nat → D := fun k => encN (cnt k)
theorem updF_cnt (cnt : Nat → Nat) (g m : Nat) : updF (cntD cnt) g (encN m) = cntD (updF cnt g m) := by
  funext k; unfold updF cntD; by_cases e : k = g <;> simp [e]
theorem wi_inner {s : Scene} (ok : OkS s) (B S X : Cell) (σ : Src) (tot : Nat → Nat) {gs ks : List Nat} {cnt : Nat → Nat} {j : Cell} (hn : gs.Nodup) (hg : ∀ g ∈ gs, g < s.length) (hk : KOk s.length ks cnt) (ht : ∀ g, (if g ∈ gs then 1 else 0) + cnt g = tot g) :
    ∃ j' ks', forL (tname 4) (sseq (sput 2 (xname 4) (op2 addD (xget (bname 2) (xname 4) (xk (.int 0))) (xk (.int 1)))) snil) (gs.map encN) [B, S, .own (encF ks (cntD cnt)), X, j] σ = some (.next, [B, S, .own (encF ks' (cntD tot)), X, j'], σ) ∧ KOk s.length ks' tot := by
  refine gen ?_; intro GG kGG
  obtain ⟨ρ', e, gs', ks', cnt', j', e1, e2, e3, e4, e5, e6⟩ := forL_inv (tg := tname 4) (body := sseq (sput 2 (xname 4) (op2 addD (xget (bname 2) (xname 4) (xk (.int 0))) (xk (.int 1)))) snil) (σ := σ)
    (fun ds ρ => ∃ gs ks cnt j, ds = gs.map encN ∧ ρ = [B, S, .own (encF ks (cntD cnt)), X, j] ∧ gs.Nodup ∧ (∀ g ∈ gs, g < s.length) ∧ KOk s.length ks cnt ∧ ∀ g, (if g ∈ gs then 1 else 0) + cnt g = tot g)
    (fun d ds ρ hI => by
      obtain ⟨gs, ks, cnt, j, h1, h2, h3, h4, h5, h6⟩ := hI
      obtain ⟨g, gs, rfl, rfl, rfl⟩ := cons_map h1
      subst h2
      have hl := h5.good.len
      have hn := ok.len
      have hnd := List.nodup_cons.mp h3
      refine ⟨[B, S, .own (encF ks (cntD cnt)), X, .frz (encN g)], [B, S, .own (encF (addK ks g) (cntD (updF cnt g (cnt g + 1)))), X, .frz (encN g)], rfl, .inl ?_, gs, addK ks g, updF cnt g (cnt g + 1), _, rfl, rfl, hnd.2, fun x hx => h4 x (.tail _ hx), ⟨⟨addK_nodup h5.good.nd, fun x hx => ?_⟩, fun x => ?_⟩, fun x => ?_⟩
      · have hget : xget (bname 2) (xname 4) (xk (.int 0)) [B, S, .own (encF ks (cntD cnt)), X, .frz (encN g)] σ = some (encN (cnt g), σ) := by
          refine xget_eq rfl rfl rfl ?_
          show some ((look (castL ks) (ks.map (cntD cnt)) (g : Int)).getD (.int 0)) = _
          rw [look_encF]
          by_cases hc : g ∈ ks
          · rw [if_pos (by simpa using hc)]; rfl
          · rw [if_neg (by simpa using hc)]
            have : cnt g = 0 := by
              exact Nat.eq_zero_of_not_pos fun q => hc ((h5.iff g).mpr q)
            rw [this]; rfl
        have hadd : op2 addD (xget (bname 2) (xname 4) (xk (.int 0))) (xk (.int 1)) [B, S, .own (encF ks (cntD cnt)), X, .frz (encN g)] σ = some (encN (cnt g + 1), σ) := op2_eq hget rfl (by
          show some (D.int ((cnt g : Int) + 1)) = some (D.int ((cnt g + 1 : Nat) : Int)); rfl)
        rw [← updF_cnt]
        exact seq1 (sput_encF (σ1 := σ) hadd (g := g) rfl rfl (by lia)) rfl
      · rcases mem_addK.mp hx with h | rfl
        · exact h5.good.lt x h
        · exact h4 _ (.head _)
      · rw [mem_addK, h5.iff x]
        unfold updF
        by_cases e : x = g
        · subst e; simp
        · simp [e]
      · have := h6 x
        unfold updF
        by_cases e : x = g
        · subst e
          simp [hnd.1] at this ⊢
          lia
        · simp [e] at this ⊢
          lia)
    ⟨gs, ks, cnt, j, rfl, rfl, hn, hg, hk, ht⟩
  have : gs' = [] := by simpa using e1.symm
  subst this
  have : cnt' = tot := by funext g; have := e6 g; simpa using this
  subst this
  refine kGG ?_; clear kGG
  exact ⟨j', ks', e2 ▸ e, e5⟩
theorem ways_ok {s : Scene} (ok : OkS s) (σ : Src) (bl : List Nat) (hb : ∀ x ∈ bl, x < s.length) : ∃ ks, KOk s.length ks (wcnt s bl) ∧ Fways_into [encBody s, encL bl] σ = some (encF ks (cntD (wcnt s bl)), σ) := by
  refine gen ?_; intro GG kGG
  obtain ⟨ρ', e, bl', ks', cnt', j3, j4, e1, e2, e3, e4, e5⟩ := forL_inv (tg := tname 3)
    (body := (sseq (sfor (ival (xcall Fsuccessors (lcons (xsub (xsub (xattr 3 (xname 0)) (bname 3)) (xk (.int 1))) lnil))) (tname 4) (sseq (sput 2 (xname 4) (op2 addD (xget (bname 2) (xname 4) (xk (.int 0))) (xk (.int 1)))) snil)) snil)) (σ := σ)
    (fun ds ρ => ∃ bl' ks cnt j3 j4, ds = bl'.map encN ∧ ρ = [.frz (encBody s), .frz (encL bl), .own (encF ks (cntD cnt)), j3, j4] ∧ (∀ x ∈ bl', x < s.length) ∧ KOk s.length ks cnt ∧ ∀ g, tally s bl' g + cnt g = wcnt s bl g)
    (fun d ds ρ hI => by
      obtain ⟨bl', ks, cnt, j3, j4, h1, h2, h3, h4, h5⟩ := hI
      obtain ⟨x, bl', rfl, rfl, rfl⟩ := cons_map h1
      subst h2
      have hx := h3 x (.head _)
      obtain ⟨j', ks', e, hk'⟩ := wi_inner ok (.frz (encBody s)) (.frz (encL bl)) (.frz (encN x)) σ (fun g => (if g ∈ succs s x then 1 else 0) + cnt g) (j := j4) (succs_nodup s x) (fun g hg => succs_lt ok hg) h4 (fun g => rfl)
      exact ⟨[.frz (encBody s), .frz (encL bl), .own (encF ks (cntD cnt)), .frz (encN x), j4], _, rfl, .inl (seq1 (sfor_eq (ival_list (succs_eq ok rfl rfl hx)) e) rfl), bl', ks', _, _, j', rfl, rfl, fun y hy => h3 y (.tail _ hy), hk', fun g => by
        have := h5 g
        rw [tally_cons] at this
        lia⟩)
    (ds := bl.map encN) (ρ := [.frz (encBody s), .frz (encL bl), .own (encF [0] (cntD fun g => if g = 0 then 1 else 0)), .un, .un])
    ⟨bl, [0], _, .un, .un, rfl, rfl, hb, ⟨⟨by simp, fun x hx => by simp at hx; subst hx; exact ok.pos⟩, fun g => by by_cases e : g = 0 <;> simp [e]⟩, fun g => by unfold wcnt; lia⟩
  have : bl' = [] := by simpa using e1.symm
  subst this
  have : cnt' = wcnt s bl := by funext g; have := e5 g; simpa [tally] using this
  subst this
  subst e2
  refine kGG ?_; clear kGG
  exact ⟨ks', e4, fdef_eq rfl (show fways_into _ _ = _ from by unfold fways_into; exact seq1 rfl (seq1 (sfor_eq rfl e) rfl))⟩
end Mine
end
section
open PySem
set_option linter.unusedVariables false
namespace Mine
mutual
theorem eqv_py : ∀ d : D, PyData.eqv (py d) (py d) = true
  | .none => rfl
  | .bool b => by simp [py, PyData.eqv]
  | .int i => by simp [py, PyData.eqv]
  | .str x => by simp [py, PyData.eqv]
  | .tup ds => by unfold py; rw [PyData.eqv]; exact eqv_pys ds
  | .list ds => by unfold py; rw [PyData.eqv]; exact eqv_pys ds
  | .dict _ _ => rfl
  | .body _ => rfl
  | .src => rfl
  | .lam _ => rfl
theorem eqv_pys : ∀ ds : List D, PyData.eqvAll (pys ds) (pys ds) = true
  | [] => rfl
  | d :: ds => by unfold pys; rw [PyData.eqvAll, eqv_py d, eqv_pys ds]; rfl
end
theorem eqD_refl {d : D} (h : okD 16 d = true) : eqD d d = some (.bool true) := by
  unfold eqD
  rw [h, eqv_py]
  rfl
theorem neD_refl {d : D} (h : okD 16 d = true) : neD d d = some (.bool false) := by
  unfold neD
  rw [h, eqv_py]
  rfl
/-! ## rows: each block's one block behind -/
abbrev Nx := Nat → Option Nat
inductive Reach (E : Nx) (h : Nat) : Nat → Prop
  | refl : Reach E h h
  | step {a g : Nat} : Reach E h a → E a = some g → Reach E h g
inductive PathTo (E : Nx) (h : Nat) : List Nat → Nat → Prop
  | nil : PathTo E h [] h
  | snoc {pre : List Nat} {x g : Nat} : PathTo E h pre x → E x = some g → PathTo E h (pre ++ [x]) g
inductive IsRow (E : Nx) : Nat → List Nat → Prop
  | last {x : Nat} : E x = none → IsRow E x [x]
  | cons {x g : Nat} {r : List Nat} : E x = some g → IsRow E g r → IsRow E x (x :: r)
theorem IsRow.uniq {E : Nx} : ∀ {r r' : List Nat} {x : Nat}, IsRow E x r → IsRow E x r' → r = r' := by
  intro r r' x k
  induction k generalizing r' with
  | last h =>
    intro k; cases k with
    | last h' => rfl
    | cons h' _ => rw [h] at h'; cases h'
  | cons h _ ih =>
    intro k; cases k with
    | last h' => rw [h] at h'; cases h'
    | cons h' r' => rw [h] at h'; cases h'; rw [ih r']
theorem PathTo.row {E : Nx} {h : Nat} {pre : List Nat} {x : Nat} (p : PathTo E h pre x) : ∀ {r : List Nat}, IsRow E x r → IsRow E h (pre ++ r) := by
  induction p with
  | nil => exact fun k => k
  | snoc _ e ih => intro r k; rw [List.append_assoc]; exact ih (.cons e k)
theorem PathTo.done {E : Nx} {h : Nat} {pre : List Nat} {x : Nat} (p : PathTo E h pre x) (e : E x = none) : IsRow E h (pre ++ [x]) := p.row (.last e)
theorem PathTo.reach {E : Nx} {h : Nat} {pre : List Nat} {x : Nat} (p : PathTo E h pre x) : Reach E h x := by
  induction p with
  | nil => exact .refl
  | snoc _ e ih => exact .step ih e
theorem PathTo.mem {E : Nx} {h : Nat} {pre : List Nat} {x y : Nat} (p : PathTo E h pre x) (hy : y ∈ pre ++ [x]) : Reach E h y := by
  induction p with
  | nil => simp at hy; subst hy; exact .refl
  | snoc q e ih =>
    rw [List.mem_append] at hy
    rcases hy with hy | hy
    · exact ih hy
    · simp at hy; subst hy; exact .step q.reach e
theorem IsRow.head {E : Nx} {h : Nat} {r : List Nat} (k : IsRow E h r) : h ∈ r := by cases k <;> exact .head _
theorem IsRow.closed {E : Nx} {h : Nat} {r : List Nat} (k : IsRow E h r) {a g : Nat} (ha : a ∈ r) (e : E a = some g) : g ∈ r := by
  induction k with
  | last e' => simp at ha; subst ha; rw [e'] at e; cases e
  | cons e' k ih =>
    rcases List.mem_cons.mp ha with rfl | ha
    · rw [e'] at e; cases e; exact .tail _ k.head
    · exact .tail _ (ih ha)
theorem IsRow.reach {E : Nx} {h y : Nat} {r : List Nat} (k : IsRow E h r) (c : Reach E h y) : y ∈ r := by
  induction c with
  | refl => exact k.head
  | step _ e ih => exact k.closed ih e
structure EOk (q : List Nat) (E : Nx) : Prop where
  nd : q.Nodup
  inj : ∀ a b g, a ∈ q → b ∈ q → E a = some g → E b = some g → a = b
  fwd : ∀ a g, a ∈ q → E a = some g → g ∈ q ∧ q.idxOf a < q.idxOf g
noncomputable def Sec (q : List Nat) (E : Nx) (x : Nat) : Prop := ∃ a ∈ q, E a = some x
section
variable {q : List Nat} {E : Nx} (k : EOk q E)
include k
theorem EOk.reach {h y : Nat} (hh : h ∈ q) (r : Reach E h y) : y ∈ q := by
  induction r with
  | refl => exact hh
  | step _ e ih => exact (k.fwd _ _ ih e).1
theorem EOk.sec {h y : Nat} (hh : h ∈ q) (r : Reach E h y) (hne : y ≠ h) : Sec q E y := by
  cases r with
  | refl => exact absurd rfl hne
  | step r e => exact ⟨_, k.reach hh r, e⟩
theorem EOk.up {h y : Nat} (hh : h ∈ q) (r : Reach E h y) : q.idxOf h ≤ q.idxOf y := by
  induction r with
  | refl => exact Nat.le_refl _
  | step r e ih => exact Nat.le_trans ih (Nat.le_of_lt (k.fwd _ _ (k.reach hh r) e).2)
theorem EOk.cover : ∀ (n : Nat) (a : Nat), a ∈ q → q.idxOf a ≤ n → ∃ h ∈ q, ¬ Sec q E h ∧ Reach E h a := by
  intro n
  induction n with
  | zero =>
    intro a ha hn
    refine ⟨a, ha, ?_, .refl⟩
    rintro ⟨b, hb, e⟩
    have := (k.fwd b a hb e).2
    lia
  | succ n ih =>
    intro a ha hn
    by_cases hs : Sec q E a
    · obtain ⟨b, hb, e⟩ := hs
      have := (k.fwd b a hb e).2
      obtain ⟨h, h1, h2, h3⟩ := ih b hb (by lia)
      exact ⟨h, h1, h2, .step h3 e⟩
    · exact ⟨a, ha, hs, .refl⟩
theorem EOk.one {h x y : Nat} (hh : h ∈ q) (hx : x ∈ q) (sh : ¬ Sec q E h) (sx : ¬ Sec q E x) (r1 : Reach E x y) (r2 : Reach E h y) : h = x := by
  induction r1 with
  | refl =>
    by_cases e : x = h
    · exact e.symm
    · exact absurd (k.sec hh r2 e) sx
  | step r e ih =>
    cases r2 with
    | refl => exact absurd ⟨_, k.reach hx r, e⟩ sh
    | step r' e' =>
      have := k.inj _ _ _ (k.reach hx r) (k.reach hh r') e e'
      subst this
      exact ih r'
theorem EOk.path {h x : Nat} {pre : List Nat} (hh : h ∈ q) (p : PathTo E h pre x) : pre.length ≤ q.idxOf x ∧ ∀ y ∈ pre, q.idxOf y < q.idxOf x := by
  induction p with
  | nil => exact ⟨Nat.zero_le _, fun y hy => nomatch hy⟩
  | snoc p e ih =>
    have h1 := (k.fwd _ _ (k.reach hh p.reach) e).2
    refine ⟨by simp; lia, fun y hy => ?_⟩
    rcases List.mem_append.mp hy with hy | hy
    · have := ih.2 y hy; lia
    · simp at hy; subst hy; exact h1
theorem idxOf_split {done rest : List Nat} {x : Nat} (hq : q = done ++ x :: rest) : q.idxOf x = done.length := by
  have hnd := k.nd
  subst hq
  rw [List.idxOf_append, if_neg]
  · simp
  · intro h
    exact (List.nodup_append.mp hnd).2.2 x h x (.head _) rfl
theorem mem_done {done rest : List Nat} {x a : Nat} (hq : q = done ++ x :: rest) (ha : a ∈ q) (hl : q.idxOf a < q.idxOf x) : a ∈ done := by
  rw [idxOf_split k hq] at hl
  subst hq
  rw [List.idxOf_append] at hl
  split at hl
  · assumption
  · lia
/-- what is used when x is looked at -/
theorem EOk.used {done rest : List Nat} {x : Nat} (hq : q = done ++ x :: rest) {U : List Nat} (hU : ∀ y, y ∈ U ↔ ∃ h ∈ done, ¬ Sec q E h ∧ Reach E h y) : x ∈ U ↔ Sec q E x := by
  have hx : x ∈ q := by rw [hq]; simp
  have hd : ∀ a ∈ done, a ∈ q := fun a ha => by rw [hq]; simp [ha]
  rw [hU]
  constructor
  · rintro ⟨h, h1, h2, h3⟩
    refine k.sec (hd h h1) h3 fun e => ?_
    subst e
    have hnd := k.nd
    rw [hq] at hnd
    exact (List.nodup_append.mp hnd).2.2 x h1 x (.head _) rfl
  · intro hs
    obtain ⟨h, h1, h2, h3⟩ := k.cover _ x hx (Nat.le_refl _)
    have hne : h ≠ x := fun e => h2 (e ▸ hs)
    have h4 : q.idxOf h < q.idxOf x := by
      cases h3 with
      | refl => exact absurd rfl hne
      | step r e =>
        have := k.up h1 r
        have := (k.fwd _ _ (k.reach h1 r) e).2
        lia
    exact ⟨h, mem_done k hq h1 h4, h2, h3⟩
/-- the next of a row is not used yet -/
theorem EOk.fresh {done rest : List Nat} {x : Nat} (hq : q = done ++ x :: rest) {U : List Nat} (hU : ∀ y, y ∈ U ↔ ∃ h ∈ done, ¬ Sec q E h ∧ Reach E h y) (sx : ¬ Sec q E x) {pre : List Nat} {y g : Nat} (p : PathTo E x pre y) (e : E y = some g) :
    g ∉ U ++ (pre ++ [y]) := by
  have hx : x ∈ q := by rw [hq]; simp
  have hd : ∀ a ∈ done, a ∈ q := fun a ha => by rw [hq]; simp [ha]
  intro hg
  rcases List.mem_append.mp hg with hg | hg
  · rw [hU] at hg
    obtain ⟨h, h1, h2, h3⟩ := hg
    have := k.one (hd h h1) hx h2 sx (.step p.reach e) h3
    subst this
    have hnd := k.nd
    rw [hq] at hnd
    exact (List.nodup_append.mp hnd).2.2 h h1 h (.head _) rfl
  · have h1 := (k.fwd _ _ (k.reach hx p.reach) e).2
    rcases List.mem_append.mp hg with hg | hg
    · have := (k.path hx p).2 g hg; lia
    · simp at hg; subst hg; lia
theorem EOk.usedNext {done rest : List Nat} {x : Nat} (hq : q = done ++ x :: rest) {U : List Nat} (hU : ∀ y, y ∈ U ↔ ∃ h ∈ done, ¬ Sec q E h ∧ Reach E h y) (sx : ¬ Sec q E x) {pre : List Nat} {y : Nat} (p : PathTo E x pre y) (e : E y = none) :
    ∀ z, z ∈ U ++ (pre ++ [y]) ↔ ∃ h ∈ done ++ [x], ¬ Sec q E h ∧ Reach E h z := by
  intro z
  rw [List.mem_append, hU]
  constructor
  · rintro (⟨h, h1, h2, h3⟩ | hz)
    · exact ⟨h, List.mem_append_left _ h1, h2, h3⟩
    · exact ⟨x, by simp, sx, p.mem hz⟩
  · rintro ⟨h, h1, h2, h3⟩
    rcases List.mem_append.mp h1 with h1 | h1
    · exact .inl ⟨h, h1, h2, h3⟩
    · simp at h1; subst h1
      exact .inr ((p.done e).reach h3)
theorem EOk.usedSkip {done rest : List Nat} {x : Nat} (hq : q = done ++ x :: rest) {U : List Nat} (hU : ∀ y, y ∈ U ↔ ∃ h ∈ done, ¬ Sec q E h ∧ Reach E h y) (sx : Sec q E x) :
    ∀ z, z ∈ U ↔ ∃ h ∈ done ++ [x], ¬ Sec q E h ∧ Reach E h z := by
  intro z
  rw [hU]
  constructor
  · rintro ⟨h, h1, h2, h3⟩
    exact ⟨h, List.mem_append_left _ h1, h2, h3⟩
  · rintro ⟨h, h1, h2, h3⟩
    rcases List.mem_append.mp h1 with h1 | h1
    · exact ⟨h, h1, h2, h3⟩
    · simp at h1; subst h1; exact absurd sx h2
end
/-- all rows -/
inductive Rows (q : List Nat) (E : Nx) : List Nat → List (List Nat) → Prop
  | nil : Rows q E [] []
  | skip {done : List Nat} {rows : List (List Nat)} {x : Nat} : Rows q E done rows → Sec q E x → Rows q E (done ++ [x]) rows
  | row {done : List Nat} {rows : List (List Nat)} {x : Nat} {r : List Nat} : Rows q E done rows → ¬ Sec q E x → IsRow E x r → Rows q E (done ++ [x]) (rows ++ [r])
theorem snoc_inj {α : Type} {a b : List α} {x y : α} (h : a ++ [x] = b ++ [y]) : a = b ∧ x = y := by simpa using h
theorem Rows.uniq' {q : List Nat} {E : Nx} {d : List Nat} {R : List (List Nat)} (h : Rows q E d R) : ∀ {d' : List Nat} {R' : List (List Nat)}, Rows q E d' R' → d = d' → R = R' := by
  induction h with
  | nil =>
    intro d' R' h' e
    cases h' with
    | nil => rfl
    | skip _ _ => simp at e
    | row _ _ _ => simp at e
  | skip h s ih =>
    intro d' R' h' e
    cases h' with
    | nil => simp at e
    | skip h' s' => exact ih h' (snoc_inj e).1
    | row h' s' r' => exact absurd ((snoc_inj e).2 ▸ s) s'
  | row h s r ih =>
    intro d' R' h' e
    cases h' with
    | nil => simp at e
    | skip h' s' => exact absurd ((snoc_inj e).2 ▸ s') s
    | row h' s' r' =>
      have e2 := (snoc_inj e).2
      subst e2
      rw [ih h' (snoc_inj e).1, r.uniq r']
theorem Rows.uniq {q : List Nat} {E : Nx} {d : List Nat} {R R' : List (List Nat)} (h : Rows q E d R) (h' : Rows q E d R') : R = R' := h.uniq' h' rfl
end Mine
end
section
open PySem
set_option linter.unusedVariables false
namespace Mine
/-! ## chains -/
noncomputable def nxt (s : Scene) (q : List Nat) (b : Nat) : Option Nat := match tm s b with
  | .goto g => if g ≠ 0 ∧ tally s q g = 1 then some g else none
  | _ => none
noncomputable def encLL (R : List (List Nat)) : D := .list (R.map encL)
theorem nxt_some {s : Scene} {q : List Nat} {b g : Nat} : nxt s q b = some g ↔ tm s b = .goto g ∧ g ≠ 0 ∧ tally s q g = 1 := by
  unfold nxt
  cases h : tm s b with
  | goto g' =>
    simp only [Tm.goto.injEq]
    split
    · rename_i h'
      simp only [Option.some.injEq]
      constructor
      · rintro rfl; exact ⟨rfl, h'⟩
      · exact fun q => q.1
    · rename_i h'
      simp only [reduceCtorEq, false_iff]
      rintro ⟨rfl, h2⟩
      exact h' h2
  | _ => simp
theorem idx_lastN (pre : List Nat) (y : Nat) (h : pre.length ≤ 900) : idx ((pre ++ [y]).map encN) (-1) = some (encN y) := by
  unfold idx
  rw [if_neg (by lia), if_pos ⟨by simp; lia, by lia⟩, List.getElem?_map]
  have : ((-1 : Int) + (((pre ++ [y]).map encN).length : Int)).toNat = pre.length := by simp; lia
  rw [this]
  simp
theorem word0 (σ : Src) (t : Tm) : subS σ (encT t) (.int 0) = some (.str t.word) := by cases t <;> rfl
noncomputable def isGoto : Tm → Bool
  | .goto _ => true
  | _ => false
theorem eq_goto (t : Tm) : eqD (.str t.word) (.str "goto") = some (.bool (isGoto t)) := by cases t <;> rfl
theorem goto_of {t : Tm} (h : isGoto t = true) : ∃ g, t = .goto g := by cases t <;> first | exact ⟨_, rfl⟩ | cases h
theorem succs_goto {s : Scene} {x g : Nat} (h : tm s x = .goto g) : succs s x = [g] := by unfold succs; rw [h]; rfl
noncomputable def chTest : TX := t2 eqD (xsub (xsub (xsub (xattr 3 (xname 0)) (xsub (bname 6) (op1 negD (xk (.int 1))))) (xk (.int 1))) (xk (.int 0))) (xk (.str "goto"))
noncomputable def chBody : SF := (sseq (sset 7 (cfrz (xsub (xsub (xsub (xattr 3 (xname 0)) (xsub (bname 6) (op1 negD (xk (.int 1))))) (xk (.int 1))) (xk (.int 1)))))
  (sseq (sif (tor (t2 neD (xsub (bname 3) (bname 7)) (xk (.int 1))) (t2 inD (bname 7) (bname 5))) (sseq (fun ρ σ => some (.brk, ρ, σ))
  snil) snil)
  (sseq (sappend 6 (xname 7))
  (sseq (sput 5 (xname 7) (xk (.bool true)))
  snil))))
theorem ch_while {s : Scene} (ok : OkS s) {q : List Nat} (gq : GoodQ s.length q) (ke : EOk q (nxt s q)) {ks : List Nat} (hk : KOk s.length ks (wcnt s q)) (σ : Src) (Q F J : Cell)
    {done rest : List Nat} {x : Nat} (hq : q = done ++ x :: rest) {U : List Nat} (hU : ∀ y, y ∈ U ↔ ∃ h ∈ done, ¬ Sec q (nxt s q) h ∧ Reach (nxt s q) h y) (sx : ¬ Sec q (nxt s q) x) (hUn : GoodQ s.length (U ++ [x])) (J7 : Cell) :
    ∃ pre y j7, PathTo (nxt s q) x pre y ∧ nxt s q y = none ∧ GoodQ s.length (U ++ (pre ++ [y])) ∧
      whileL chTest chBody 64 [.frz (encBody s), Q, J, .frz (encF ks (cntD (wcnt s q))), F, .own (encM (U ++ [x])), .own (encL [x]), J7] σ =
        some (.next, [.frz (encBody s), Q, J, .frz (encF ks (cntD (wcnt s q))), F, .own (encM (U ++ (pre ++ [y]))), .own (encL (pre ++ [y])), j7], σ) := by
  refine gen ?_; intro GG kGG
  have hn := ok.len
  have hx : x ∈ q := by rw [hq]; simp
  obtain ⟨ρ', e, pre, y, j7, e1, e2, e3, e4⟩ := whileL_inv (t := chTest) (b := chBody) (σ := σ)
    (fun k ρ => ∃ pre y j7, PathTo (nxt s q) x pre y ∧ GoodQ s.length (U ++ (pre ++ [y])) ∧ ρ = [.frz (encBody s), Q, J, .frz (encF ks (cntD (wcnt s q))), F, .own (encM (U ++ (pre ++ [y]))), .own (encL (pre ++ [y])), j7] ∧ k + q.idxOf y = s.length)
    (fun ρ => ∃ pre y j7, PathTo (nxt s q) x pre y ∧ nxt s q y = none ∧ GoodQ s.length (U ++ (pre ++ [y])) ∧ ρ = [.frz (encBody s), Q, J, .frz (encF ks (cntD (wcnt s q))), F, .own (encM (U ++ (pre ++ [y]))), .own (encL (pre ++ [y])), j7])
    (fun k ρ hI => by
      obtain ⟨pre, y, j7, h1, h2, h3, h4⟩ := hI
      subst h3
      have hl := h2.len
      simp only [List.length_append] at hl
      have hy : y < s.length := h2.lt y (by simp)
      have hyq : y ∈ q := ke.reach hx h1.reach
      have hlast : xsub (bname 6) (op1 negD (xk (.int 1))) [.frz (encBody s), Q, J, .frz (encF ks (cntD (wcnt s q))), F, .own (encM (U ++ (pre ++ [y]))), .own (encL (pre ++ [y])), j7] σ = some (encN y, σ) :=
        xsub_eq rfl rfl (idx_lastN pre y (by lia))
      have hterm := term_eq ok (ρ := [.frz (encBody s), Q, J, .frz (encF ks (cntD (wcnt s q))), F, .own (encM (U ++ (pre ++ [y]))), .own (encL (pre ++ [y])), j7]) rfl hlast hy
      have htest : chTest [.frz (encBody s), Q, J, .frz (encF ks (cntD (wcnt s q))), F, .own (encM (U ++ (pre ++ [y]))), .own (encL (pre ++ [y])), j7] σ = some (isGoto (tm s y), σ) :=
        t2_eq (xsub_eq hterm rfl (word0 σ _)) rfl (eq_goto _)
      cases hg : isGoto (tm s y) with
      | false =>
        left
        rw [htest, hg]
        refine ⟨rfl, pre, y, j7, h1, ?_, h2, rfl⟩
        cases e : nxt s q y with
        | none => rfl
        | some g => rw [(nxt_some.mp e).1] at hg; cases hg
      | true =>
        right
        rw [htest, hg]
        refine ⟨rfl, ?_⟩
        obtain ⟨g, hgo⟩ := goto_of hg
        have hsu := succs_goto hgo
        have hgn : g < s.length := succs_lt ok (x := y) (by rw [hsu]; exact .head _)
        have htal : 0 < tally s q g := by
          unfold tally
          exact List.length_pos_of_mem (a := y) (List.mem_filter.mpr ⟨hyq, by rw [hsu]; simp⟩)
        have hgk : g ∈ ks := (hk.iff g).mpr (by unfold wcnt; lia)
        have hset : sset 7 (cfrz (xsub (xsub (xsub (xattr 3 (xname 0)) (xsub (bname 6) (op1 negD (xk (.int 1))))) (xk (.int 1))) (xk (.int 1)))) [.frz (encBody s), Q, J, .frz (encF ks (cntD (wcnt s q))), F, .own (encM (U ++ (pre ++ [y]))), .own (encL (pre ++ [y])), j7] σ =
            some (.next, [.frz (encBody s), Q, J, .frz (encF ks (cntD (wcnt s q))), F, .own (encM (U ++ (pre ++ [y]))), .own (encL (pre ++ [y])), .frz (encN g)], σ) :=
          sset_eq (cfrz_eq (xsub_eq hterm rfl (by rw [hgo]; rfl)))
        have hne : t2 neD (xsub (bname 3) (bname 7)) (xk (.int 1)) [.frz (encBody s), Q, J, .frz (encF ks (cntD (wcnt s q))), F, .own (encM (U ++ (pre ++ [y]))), .own (encL (pre ++ [y])), .frz (encN g)] σ = some (!(wcnt s q g == 1), σ) :=
          t2_eq (xsub_eq rfl rfl (subS_encF hgk)) rfl (neD_encN _ 1)
        have hin : t2 inD (bname 7) (bname 5) [.frz (encBody s), Q, J, .frz (encF ks (cntD (wcnt s q))), F, .own (encM (U ++ (pre ++ [y]))), .own (encL (pre ++ [y])), .frz (encN g)] σ = some ((U ++ (pre ++ [y])).contains g, σ) :=
          t2_eq rfl rfl (inD_encM _ g)
        have hor := tor_bb hne hin
        cases hb : (!(wcnt s q g == 1)) || (U ++ (pre ++ [y])).contains g with
        | true =>
          rw [hb] at hor
          refine ⟨_, .inl ⟨seq1 hset (sseq_brk (if_t hor (sseq_brk rfl))), pre, y, .frz (encN g), h1, ?_, h2, rfl⟩⟩
          cases e : nxt s q y with
          | none => rfl
          | some g' =>
            exfalso
            have h5 := nxt_some.mp e
            rw [hgo] at h5
            have h6 : g = g' := by have := h5.1; simpa using this
            subst h6
            have hf := ke.fresh hq hU sx h1 e
            have hw : wcnt s q g = 1 := by unfold wcnt; rw [if_neg h5.2.1, h5.2.2]
            rw [hw] at hb
            simp at hb
            apply hf
            simp
            exact hb
        | false =>
          rw [hb] at hor
          have hb' := hb
          simp only [Bool.or_eq_false_iff] at hb'
          obtain ⟨hb1, hb2⟩ := hb'
          have hw : wcnt s q g = 1 := by simpa using hb1
          have hg0 : g ≠ 0 := by
            rintro rfl
            unfold wcnt at hw
            simp at hw
            lia
          have hE : nxt s q y = some g := nxt_some.mpr ⟨hgo, hg0, by unfold wcnt at hw; rw [if_neg hg0] at hw; lia⟩
          have hf := ke.fwd y g hyq hE
          have h2' : GoodQ s.length (U ++ ((pre ++ [y]) ++ [g])) := by
            rw [← List.append_assoc]
            have := h2.go (gs := [g]) (fun z hz => by simp at hz; subst hz; exact hgn)
            rw [eachGo_some, hb2] at this
            exact this
          have hl2 := h2'.len
          simp only [List.length_append, List.length_cons, List.length_nil] at hl2
          refine ⟨_, .inr ⟨.inl (seq1 hset (seq1 (if_f hor rfl) (seq1 (sappend_encL (l := pre ++ [y]) (g := g) rfl rfl (by simp; lia)) (seq1 (sput_encM (q := U ++ (pre ++ [y])) (g := g) rfl rfl (by simp; lia) hb2) rfl)))), k - (q.idxOf g - q.idxOf y), ?_, pre ++ [y], g, .frz (encN g), h1.snoc hE, h2', ?_, ?_⟩⟩
          · have := gq.len
            have : q.idxOf g < q.length := List.idxOf_lt_length_of_mem hf.1
            lia
          · rw [← List.append_assoc U (pre ++ [y]) [g]]
            rfl
          · have := gq.len
            have : q.idxOf g < q.length := List.idxOf_lt_length_of_mem hf.1
            lia)
    64 (s.length - q.idxOf x) [.frz (encBody s), Q, J, .frz (encF ks (cntD (wcnt s q))), F, .own (encM (U ++ [x])), .own (encL [x]), J7] (by lia)
    ⟨[], x, J7, .nil, hUn, rfl, by
      have := gq.len
      have : q.idxOf x < q.length := List.idxOf_lt_length_of_mem hx
      lia⟩
  refine kGG ?_; clear kGG
  exact ⟨pre, y, j7, e1, e2, e3, e4 ▸ e⟩
theorem xsetR {ρ : Vars} {i : Nat} {d : D} {h : SF} {σ : Src} {r : Option (Fl × Vars × Src)} (e : ρ[i]? = some (.own d)) (h2 : h (ρ.set i (.frz d)) σ = r) : sfrz i h ρ σ = r := by
  unfold sfrz frzAt; rw [e]; exact h2
noncomputable def chOuter : SF := (sseq (sif (t2 inD (bname 2) (bname 5)) (sseq (fun ρ σ => some (.cont, ρ, σ))
  snil) snil)
  (sseq (sset 6 (cown (xlist (lcons (xname 2) lnil))))
  (sseq (sput 5 (xname 2) (xk (.bool true)))
  (sseq (whileL chTest chBody 64)
  (sfrz 6 (sseq (sappend 4 (xname 6))
  snil))))))
theorem chains_ok {s : Scene} (ok : OkS s) {q : List Nat} (gq : GoodQ s.length q) (ke : EOk q (nxt s q)) (σ : Src) (hc : Fcome_to [encBody s] σ = some (encL q, σ)) :
    ∃ R, Rows q (nxt s q) q R ∧ Fchains [encBody s] σ = some (encLL R, σ) := by
  refine gen ?_; intro GG kGG
  have hn := ok.len
  have hql := gq.len
  obtain ⟨ks, hk, hw⟩ := ways_ok ok σ q gq.lt
  obtain ⟨ρ', e, done, rest, R, U, j2, j6, j7, e1, e2, e3, e4, e5, e6⟩ := forL_inv (tg := tname 2) (body := chOuter) (σ := σ)
    (fun ds ρ => ∃ done rest R U j2 j6 j7, ds = rest.map encN ∧ q = done ++ rest ∧ Rows q (nxt s q) done R ∧ (R.length ≤ done.length ∧ GoodQ s.length U) ∧ (∀ y, y ∈ U ↔ ∃ h ∈ done, ¬ Sec q (nxt s q) h ∧ Reach (nxt s q) h y) ∧
      ρ = [.frz (encBody s), .frz (encL q), j2, .frz (encF ks (cntD (wcnt s q))), .own (encLL R), .own (encM U), j6, j7])
    (fun d ds ρ hI => by
      obtain ⟨done, rest, R, U, j2, j6, j7, h1, h2, h3, h4, h5, h6⟩ := hI
      obtain ⟨x, rest, rfl, rfl, rfl⟩ := cons_map h1
      subst h6
      have hx : x ∈ q := by rw [h2]; simp
      have hxn := gq.lt x hx
      have hql2 : done.length < q.length := by rw [h2]; simp
      have hU := ke.used h2 h5
      have hin : t2 inD (bname 2) (bname 5) [.frz (encBody s), .frz (encL q), .frz (encN x), .frz (encF ks (cntD (wcnt s q))), .own (encLL R), .own (encM U), j6, j7] σ = some (U.contains x, σ) := t2_eq rfl rfl (inD_encM _ x)
      have hq' : q = (done ++ [x]) ++ rest := by rw [List.append_assoc]; exact h2
      cases hb : U.contains x with
      | true =>
        rw [hb] at hin
        have sx : Sec q (nxt s q) x := hU.mp (by simpa using hb)
        exact ⟨_, _, rfl, .inr (sseq_cont (if_t hin (sseq_cont rfl))), done ++ [x], rest, R, U, _, j6, j7, rfl, hq', h3.skip sx, ⟨by simp; lia, h4.2⟩, ke.usedSkip h2 h5 sx, rfl⟩
      | false =>
        rw [hb] at hin
        have sx : ¬ Sec q (nxt s q) x := fun h => by have := hU.mpr h; simp [this] at hb
        have gU : GoodQ s.length (U ++ [x]) := by
          have := h4.2.go (gs := [x]) (fun z hz => by simp at hz; subst hz; exact hxn)
          rw [eachGo_some, hb] at this
          exact this
        have := h4.2.len
        obtain ⟨pre, y, j7', p1, p2, p3, p4⟩ := ch_while ok gq ke hk σ (.frz (encL q)) (.own (encLL R)) (.frz (encN x)) h2 h5 sx gU j7
        refine ⟨_, [.frz (encBody s), .frz (encL q), .frz (encN x), .frz (encF ks (cntD (wcnt s q))), .own (encLL (R ++ [pre ++ [y]])), .own (encM (U ++ (pre ++ [y]))), .frz (encL (pre ++ [y])), j7'], rfl, .inl ?_, done ++ [x], rest, R ++ [pre ++ [y]], U ++ (pre ++ [y]), _, _, _, rfl, hq', h3.row sx (p1.done p2), ⟨by simp; lia, p3⟩, ke.usedNext h2 h5 sx p1 p2, rfl⟩
        refine seq1 (if_f hin rfl) (seq1 (sset_eq (cown_eq (xlist_eq (lcons_eq rfl rfl) (by simp)))) (seq1 (sput_encM (q := U) (g := x) rfl rfl (by lia) hb) (seq1 p4 (xsetR rfl ?_))))
        refine seq1 (sappend_eq (ds := R.map encL) (d := encL (pre ++ [y])) rfl rfl (by rw [List.length_map]; lia)) ?_
        unfold encLL
        rw [List.map_append]
        rfl)
    (ds := q.map encN) (ρ := [.frz (encBody s), .frz (encL q), .un, .frz (encF ks (cntD (wcnt s q))), .own (encLL []), .own (encM []), .un, .un])
    ⟨[], q, [], [], .un, .un, .un, rfl, rfl, .nil, ⟨Nat.le_refl _, ⟨by simp, fun x hx => nomatch hx⟩⟩, fun y => by simp, rfl⟩
  have : rest = [] := by simpa using e1.symm
  subst this
  have : done = q := by simpa using e2.symm
  subst this
  subst e6
  refine kGG ?_; clear kGG
  refine ⟨R, e3, fdef_eq rfl (show fchains _ _ = _ from by
    unfold fchains
    refine seq1 (ρ' := [.frz (encBody s), .frz (encL done), .un, .un, .un, .un, .un, .un]) (sset_eq (cfrz_eq ((xcall_eq rfl).trans hc))) ?_
    have hpar : spar [3, 4, 5] (lccons (cfrz (xcall Fways_into (lcons (xname 0) (lcons (xname 1) lnil)))) (lccons (cown (xlist lnil)) (lccons (cown xd0) lcnil))) [.frz (encBody s), .frz (encL done), .un, .un, .un, .un, .un, .un] σ =
        some (.next, [.frz (encBody s), .frz (encL done), .un, .frz (encF ks (cntD (wcnt s done))), .own (encLL []), .own (encM []), .un, .un], σ) := by
      have h1 : cfrz (xcall Fways_into (lcons (xname 0) (lcons (xname 1) lnil))) [.frz (encBody s), .frz (encL done), .un, .un, .un, .un, .un, .un] σ = some (.frz (encF ks (cntD (wcnt s done))), σ) := cfrz_eq ((xcall_eq rfl).trans hw)
      unfold spar lccons
      rw [h1]
      rfl
    exact seq1 hpar (seq1 (sfor_eq rfl e) rfl))⟩
end Mine
end
section
open PySem
set_option linter.unusedVariables false
namespace Mine
/-! ## reading the scene -/
section
variable {s : Scene} {ρ : Vars} {σ : Src}
theorem scene_at {f0 f : EX} {x : Nat} (ok : OkS s) (h0 : f0 ρ σ = some (encScene s, σ)) (hf : f ρ σ = some (encN x, σ)) (hx : x < s.length) :
    xsub f0 f ρ σ = some (.tup [encLines (ln s x), .str (tm s x).word, encG (tm s x).goals], σ) := by
  refine xsub_eq h0 hf ?_
  show idx _ _ = _
  rw [idx_map _ _ _ (lt_of_blk ok hx), at_blk hx]
  rfl
theorem goals_at {f0 f : EX} {x : Nat} (ok : OkS s) (h0 : f0 ρ σ = some (encScene s, σ)) (hf : f ρ σ = some (encN x, σ)) (hx : x < s.length) :
    xsub (xsub f0 f) (xk (.int 2)) ρ σ = some (encG (tm s x).goals, σ) := xsub_eq (scene_at ok h0 hf hx) rfl rfl
theorem len_scene {f0 : EX} (ok : OkS s) (h0 : f0 ρ σ = some (encScene s, σ)) : op1 lenD f0 ρ σ = some (.int (s.length : Int), σ) := by
  refine op1_eq h0 ?_
  show (if (s.map encBlk).length ≤ 1000 then some (D.int ((s.map encBlk).length : Int)) else none) = _
  rw [List.length_map, if_pos (by have := ok.len; lia)]
end
theorem okDs_encO (n : Nat) : ∀ gs : List (Option Nat), okDs n (gs.map encO) = true
  | [] => by cases n <;> rfl
  | o :: gs => by
    show (okD n (encO o) && okDs n (gs.map encO)) = true
    rw [okDs_encO n gs]
    cases n <;> cases o <;> rfl
theorem any_encO (g : Nat) : ∀ gs : List (Option Nat), ((pys (gs.map encO)).any fun y => PyData.eqv y (.int (g : Int))) = gs.contains (some g)
  | [] => rfl
  | none :: gs => by
    rw [List.map_cons]
    simp only [pys, List.any_cons, any_encO g gs, List.contains_cons]
    rfl
  | some a :: gs => by
    rw [List.map_cons]
    simp only [pys, List.any_cons, any_encO g gs, List.contains_cons]
    show (PyData.eqv (.int (a : Int)) (.int (g : Int)) || _) = _
    rw [eqv_int]
    congr 1
    by_cases e : a = g
    · subst e; simp
    · have h1 : (a == g) = false := by simp [e]
      have h2 : (some g == some a) = false := by simp; exact fun h => e h.symm
      rw [h1, h2]
theorem inD_encG (gs : List (Option Nat)) (g : Nat) : inD (encN g) (encG gs) = some (.bool ((each gs).contains g)) := by
  show (if okD 16 (encN g) && okDs 16 (gs.map encO) then some (D.bool ((pys (gs.map encO)).any fun y => PyData.eqv y (py (encN g)))) else none) = _
  rw [okDs_encO]
  have : okD 16 (encN g) = true := rfl
  rw [this]
  show some (D.bool ((pys (gs.map encO)).any fun y => PyData.eqv y (.int (g : Int)))) = _
  rw [any_encO]
  congr 2
  rw [Bool.eq_iff_iff]
  simp [mem_each]
/-- a comprehension that reads only -/
theorem compL_gen {α : Type} {cb : CB} {t : TX} {f : EX} {ρc : Vars} {σ : Src} (enc : α → D) (lsf : α → List D) (p : α → Bool) (e : α → D) : ∀ (l : List α), (∀ a ∈ l, cb (enc a) = some (lsf a)) → (∀ a ∈ l, t (ρc ++ (lsf a).map .frz) σ = some (p a, σ)) →
    (∀ a ∈ l, p a = true → f (ρc ++ (lsf a).map .frz) σ = some (e a, σ)) → compL cb t f ρc (l.map enc) σ = some ((l.filter p).map e, σ)
  | [], _, _, _ => rfl
  | a :: l, h0, h1, h2 => by
    have ih := compL_gen enc lsf p e l (fun b hb => h0 b (.tail _ hb)) (fun b hb => h1 b (.tail _ hb)) (fun b hb => h2 b (.tail _ hb))
    rw [List.map_cons, List.filter_cons]
    cases hp : p a with
    | true => exact compL_true (h0 a (.head _)) (hp ▸ h1 a (.head _)) (h2 a (.head _) hp) ih
    | false => exact compL_false (h0 a (.head _)) (hp ▸ h1 a (.head _)) ih
theorem eqv_encLs : ∀ l m : List Nat, PyData.eqvAll (pys (l.map encN)) (pys (m.map encN)) = (l == m)
  | [], [] => rfl
  | [], _ :: _ => rfl
  | _ :: _, [] => rfl
  | a :: l, b :: m => by
    rw [List.map_cons, List.map_cons]
    unfold pys
    rw [PyData.eqvAll, eqv_encLs l m]
    show (PyData.eqv (.int (a : Int)) (.int (b : Int)) && _) = _
    rw [eqv_int]
    rfl
theorem eqD_encL (l m : List Nat) : eqD (encL l) (encL m) = some (.bool (l == m)) := by
  show (if okDs 15 (l.map encN) && okDs 15 (m.map encN) then some (D.bool (PyData.eqv (.list (pys (l.map encN))) (.list (pys (m.map encN))))) else none) = _
  rw [okDs_encN, okDs_encN, PyData.eqv, eqv_encLs]
  rfl
theorem sortK_eq (K : List Nat) (f : Nat → D) (hl : K.length < 64) : ∃ K', K'.Perm K ∧ sortKD (encF K f) = some (encL K') := by
  have hp := List.mergeSort_perm (castL K) (fun a b => decide (a ≤ b))
  refine ⟨((castL K).mergeSort fun a b => decide (a ≤ b)).map Int.toNat, ?_, ?_⟩
  · have := hp.map Int.toNat
    have e : (castL K).map Int.toNat = K := by
      unfold castL
      rw [List.map_map]
      show K.map (fun x => x) = K
      simp
    rwa [e] at this
  · show (if (castL K).length < 64 then some (D.list (((castL K).mergeSort fun a b => decide (a ≤ b)).map .int)) else none) = _
    rw [if_pos (by unfold castL; rw [List.length_map]; exact hl)]
    unfold encL
    rw [List.map_map]
    congr 2
    refine List.map_congr_left fun a ha => ?_
    have := hp.mem_iff.mp ha
    unfold castL at this
    obtain ⟨x, _, rfl⟩ := List.mem_map.mp this
    rfl
theorem forL_next {tg : TG} {b : SF} {d : D} {ds : List D} {ρ ρ1 ρ2 : Vars} {σ : Src} (h1 : tg d ρ = some ρ1) (h2 : b ρ1 σ = some (.next, ρ2, σ)) : forL tg b (d :: ds) ρ σ = forL tg b ds ρ2 σ := by
  rw [forL_cons, h1]; dsimp only; rw [h2]
/-! ## _law_rows -/
noncomputable def nxD (s : Scene) (q : List Nat) : Nat → D := fun b => encN ((nxt s q b).getD 0)
theorem updF_nx {s : Scene} {q : List Nat} {b g : Nat} (h : nxt s q b = some g) : updF (nxD s q) b (encN g) = nxD s q := by
  funext k
  unfold updF nxD
  by_cases e : k = b
  · subst e; simp [h]
  · simp [e]
noncomputable def hasNx (s : Scene) (q : List Nat) (b : Nat) : Bool := (nxt s q b).isSome
theorem filter_one {q : List Nat} {p : Nat → Bool} {b : Nat} (hnd : q.Nodup) (hb : b ∈ q.filter p) : (q.filter p == [b]) = ((q.filter p).length == 1) := by
  rw [Bool.eq_iff_iff]
  simp only [beq_iff_eq]
  constructor
  · intro h; rw [h]; rfl
  · intro h
    obtain ⟨c, hc⟩ := List.length_eq_one_iff.mp h
    rw [hc] at hb ⊢
    simp at hb
    rw [hb]
noncomputable def lr1 : SF := (sseq (sunp [6, 7, 8] (xsub (bname 0) (bname 3)))
  (sseq (sif (tand (t2 eqD (bname 7) (xk (.str "goto"))) (tand (t2 neD (xsub (bname 8) (xk (.int 0))) (xk (.int 0))) (t2 eqD (xcomp [0, 8] (ival (xname 1)) cbname (t2 inD (xsub (bname 1) (xk (.int 0))) (xsub (xsub (bname 0) (bname 2)) (xk (.int 2)))) (xname 2)) (xlist (lcons (xname 3) lnil))))) (sseq (sput 2 (xname 3) (xsub (bname 8) (xk (.int 0))))
  snil) snil)
  snil))
theorem lr1_loop {s : Scene} (ok : OkS s) {q : List Nat} (gq : GoodQ s.length q) (σ : Src) (A B J9 J10 : Cell) :
    ∃ j3 j6 j7 j8, forL (tname 3) lr1 (q.map encN) [.frz (encScene s), .frz (encL q), .own (encF [] (nxD s q)), .un, A, B, .un, .un, .un, J9, J10] σ =
      some (.next, [.frz (encScene s), .frz (encL q), .own (encF (q.filter (hasNx s q)) (nxD s q)), j3, A, B, j6, j7, j8, J9, J10], σ) := by
  refine gen ?_; intro GG kGG
  have hn := ok.len
  have hql := gq.len
  obtain ⟨ρ', e, done, rest, j3, j6, j7, j8, e1, e2, e3⟩ := forL_inv (tg := tname 3) (body := lr1) (σ := σ)
    (fun ds ρ => ∃ done rest j3 j6 j7 j8, ds = rest.map encN ∧ q = done ++ rest ∧ ρ = [.frz (encScene s), .frz (encL q), .own (encF (done.filter (hasNx s q)) (nxD s q)), j3, A, B, j6, j7, j8, J9, J10])
    (fun d ds ρ hI => by
      obtain ⟨done, rest, j3, j6, j7, j8, h1, h2, h3⟩ := hI
      obtain ⟨x, rest, rfl, rfl, rfl⟩ := cons_map h1
      subst h3
      have hx : x ∈ q := by rw [h2]; simp
      have hxn := gq.lt x hx
      have hq' : q = (done ++ [x]) ++ rest := by rw [List.append_assoc]; exact h2
      have hxd : x ∉ done := by
        have hnd := gq.nd
        rw [h2] at hnd
        exact fun h => (List.nodup_append.mp hnd).2.2 x h x (.head _) rfl
      have hf : (done ++ [x]).filter (hasNx s q) = done.filter (hasNx s q) ++ (if hasNx s q x then [x] else []) := by
        rw [List.filter_append]
        congr 1
        rw [List.filter_cons]
        split <;> rfl
      generalize hK : done.filter (hasNx s q) = K at *
      have hKl : K.length ≤ 5 := by
        have : K.length ≤ done.length := by rw [← hK]; exact List.length_filter_le _ _
        have : done.length ≤ q.length := by rw [h2]; simp
        lia
      have hxK : K.contains x = false := by
        cases hc : K.contains x with
        | false => rfl
        | true =>
          have : x ∈ K := by simpa using hc
          rw [← hK] at this
          exact absurd (List.mem_filter.mp this).1 hxd
      have hunp : sunp [6, 7, 8] (xsub (bname 0) (bname 3)) [.frz (encScene s), .frz (encL q), .own (encF K (nxD s q)), .frz (encN x), A, B, j6, j7, j8, J9, J10] σ =
          some (.next, [.frz (encScene s), .frz (encL q), .own (encF K (nxD s q)), .frz (encN x), A, B, .frz (encLines (ln s x)), .frz (.str (tm s x).word), .frz (encG (tm s x).goals), J9, J10], σ) :=
        sunp_eq (scene_at ok rfl rfl hxn) rfl
      have ht1 : t2 eqD (bname 7) (xk (.str "goto")) [.frz (encScene s), .frz (encL q), .own (encF K (nxD s q)), .frz (encN x), A, B, .frz (encLines (ln s x)), .frz (.str (tm s x).word), .frz (encG (tm s x).goals), J9, J10] σ = some (isGoto (tm s x), σ) :=
        t2_eq rfl rfl (eq_goto _)
      cases hg : isGoto (tm s x) with
      | false =>
        rw [hg] at ht1
        have hno : hasNx s q x = false := by
          unfold hasNx
          cases e : nxt s q x with
          | none => rfl
          | some g => rw [(nxt_some.mp e).1] at hg; cases hg
        rw [hno] at hf
        refine ⟨_, [.frz (encScene s), .frz (encL q), .own (encF K (nxD s q)), .frz (encN x), A, B, .frz (encLines (ln s x)), .frz (.str (tm s x).word), .frz (encG (tm s x).goals), J9, J10], rfl, .inl (seq1 hunp (seq1 (if_f (tand_f ht1) rfl) rfl)), done ++ [x], rest, .frz (encN x), .frz (encLines (ln s x)), .frz (.str (tm s x).word), .frz (encG (tm s x).goals), rfl, hq', ?_⟩
        rw [hf]
        simp
      | true =>
        rw [hg] at ht1
        obtain ⟨g, hgo⟩ := goto_of hg
        have hsu := succs_goto hgo
        have hgs : (tm s x).goals = [some g] := by rw [hgo]; rfl
        have h80 : ∀ (j9 : Cell), xsub (bname 8) (xk (.int 0)) [.frz (encScene s), .frz (encL q), .own (encF K (nxD s q)), .frz (encN x), A, B, .frz (encLines (ln s x)), .frz (.str (tm s x).word), .frz (encG (tm s x).goals), j9, J10] σ = some (encN g, σ) := fun j9 =>
          xsub_eq rfl rfl (by rw [hgs]; rfl)
        have ht2 := t2_eq (g := neD) (h80 J9) (f2 := xk (.int 0)) rfl (neD_encN g 0)
        have hcomp : xcomp [0, 8] (ival (xname 1)) cbname (t2 inD (xsub (bname 1) (xk (.int 0))) (xsub (xsub (bname 0) (bname 2)) (xk (.int 2)))) (xname 2) [.frz (encScene s), .frz (encL q), .own (encF K (nxD s q)), .frz (encN x), A, B, .frz (encLines (ln s x)), .frz (.str (tm s x).word), .frz (encG (tm s x).goals), J9, J10] σ =
            some (encL (q.filter fun y => (succs s y).contains g), σ) := by
          refine xcomp_eq (ds := q.map encN) rfl (by rw [List.length_map]; lia) rfl ?_
          show compL cbname _ _ [.frz (encScene s), .frz (encG (tm s x).goals)] _ σ = _
          refine compL_gen encN (fun y => [encN y]) _ encN q (fun _ _ => rfl) (fun y hy => ?_) (fun y hy _ => rfl)
          refine t2_eq (xsub_eq rfl rfl (show subS σ (encG (tm s x).goals) (.int 0) = some (encN g) by rw [hgs]; rfl)) (goals_at ok (x := y) rfl rfl (gq.lt y hy)) ?_
          exact inD_encG _ g
        have hxf : x ∈ q.filter fun y => (succs s y).contains g := List.mem_filter.mpr ⟨hx, by rw [hsu]; simp⟩
        have ht3 : t2 eqD (xcomp [0, 8] (ival (xname 1)) cbname (t2 inD (xsub (bname 1) (xk (.int 0))) (xsub (xsub (bname 0) (bname 2)) (xk (.int 2)))) (xname 2)) (xlist (lcons (xname 3) lnil)) [.frz (encScene s), .frz (encL q), .own (encF K (nxD s q)), .frz (encN x), A, B, .frz (encLines (ln s x)), .frz (.str (tm s x).word), .frz (encG (tm s x).goals), J9, J10] σ =
            some (tally s q g == 1, σ) := by
          refine t2_eq hcomp rfl ((eqD_encL _ [x]).trans ?_)
          rw [filter_one gq.nd hxf]
          rfl
        have ht := tand_bb ht1 (tand_bb ht2 ht3)
        have hval : (true && (!(g == 0) && tally s q g == 1)) = hasNx s q x := by
          unfold hasNx nxt
          rw [hgo]
          by_cases c1 : g = 0 <;> by_cases c2 : tally s q g = 1 <;> simp [c1, c2]
        rw [hval] at ht
        cases hnx : hasNx s q x with
        | false =>
          rw [hnx] at hf ht
          refine ⟨_, [.frz (encScene s), .frz (encL q), .own (encF K (nxD s q)), .frz (encN x), A, B, .frz (encLines (ln s x)), .frz (.str (tm s x).word), .frz (encG (tm s x).goals), J9, J10], rfl, .inl (seq1 hunp (seq1 (if_f ht rfl) rfl)), done ++ [x], rest, .frz (encN x), .frz (encLines (ln s x)), .frz (.str (tm s x).word), .frz (encG (tm s x).goals), rfl, hq', ?_⟩
          rw [hf]
          simp
        | true =>
          rw [hnx] at hf ht
          have hE : nxt s q x = some g := by
            unfold hasNx at hnx
            obtain ⟨g', hg'⟩ := Option.isSome_iff_exists.mp hnx
            have := (nxt_some.mp hg').1
            rw [hgo] at this
            cases this
            exact hg'
          refine ⟨_, [.frz (encScene s), .frz (encL q), .own (encF (K ++ [x]) (nxD s q)), .frz (encN x), A, B, .frz (encLines (ln s x)), .frz (.str (tm s x).word), .frz (encG (tm s x).goals), J9, J10], rfl, .inl (seq1 hunp (seq1 (if_t ht (seq1 (sput_encF (σ1 := σ) (h80 J9) (g := x) rfl rfl (by lia)) ?_)) rfl)), done ++ [x], rest, .frz (encN x), .frz (encLines (ln s x)), .frz (.str (tm s x).word), .frz (encG (tm s x).goals), rfl, hq', ?_⟩
          · rw [updF_nx hE]
            unfold addK
            rw [hxK]
            rfl
          · rw [hf]
            simp)
    (ds := q.map encN) (ρ := [.frz (encScene s), .frz (encL q), .own (encF [] (nxD s q)), .un, A, B, .un, .un, .un, J9, J10])
    ⟨[], q, .un, .un, .un, .un, rfl, rfl, rfl⟩
  have : rest = [] := by simpa using e1.symm
  subst this
  have : done = q := by simpa using e2.symm
  subst this
  refine kGG ?_; clear kGG
  exact ⟨j3, j6, j7, j8, e3 ▸ e⟩
noncomputable def lr2 : SF := (sseq (sif (t2 inD (xsub (bname 9) (op1 negD (xk (.int 1)))) (bname 2)) (sseq (sappend 9 (xsub (bname 2) (xsub (bname 9) (op1 negD (xk (.int 1))))))
  snil) snil)
  snil)
theorem nx_getD {s : Scene} {q : List Nat} {y g : Nat} (h : nxt s q y = some g) : nxD s q y = encN g := by unfold nxD; rw [h]; rfl
theorem lr2_loop {s : Scene} (ok : OkS s) {q : List Nat} (gq : GoodQ s.length q) (ke : EOk q (nxt s q)) (σ : Src) {x : Nat} (hx : x ∈ q) (c0 c1 c3 c4 c5 c6 c7 c8 J : Cell) :
    ∃ r j, IsRow (nxt s q) x r ∧ r.length ≤ 5 ∧ forL (tname 10) lr2 ((List.range' 0 s.length).map encN) [c0, c1, .own (encF (q.filter (hasNx s q)) (nxD s q)), c3, c4, c5, c6, c7, c8, .own (encL [x]), J] σ =
      some (.next, [c0, c1, .own (encF (q.filter (hasNx s q)) (nxD s q)), c3, c4, c5, c6, c7, c8, .own (encL r), j], σ) := by
  have hn := ok.len
  have hql := gq.len
  have key : ∀ (ts : List Nat) (pre : List Nat) (y : Nat) (j : Cell), PathTo (nxt s q) x pre y → (nxt s q y = none ∨ ts.length + pre.length = s.length) →
      ∃ r j', IsRow (nxt s q) x r ∧ r.length ≤ 5 ∧ forL (tname 10) lr2 (ts.map encN) [c0, c1, .own (encF (q.filter (hasNx s q)) (nxD s q)), c3, c4, c5, c6, c7, c8, .own (encL (pre ++ [y])), j] σ =
        some (.next, [c0, c1, .own (encF (q.filter (hasNx s q)) (nxD s q)), c3, c4, c5, c6, c7, c8, .own (encL r), j'], σ) := by
    intro ts
    induction ts with
    | nil =>
      intro pre y j p h
      have hyq : y ∈ q := ke.reach hx p.reach
      have hpl := (ke.path hx p).1
      have hyl : q.idxOf y < q.length := List.idxOf_lt_length_of_mem hyq
      have h' : nxt s q y = none := by
        rcases h with h | h
        · exact h
        · simp at h; lia
      exact ⟨pre ++ [y], j, p.done h', by simp; lia, rfl⟩
    | cons t ts ih =>
      intro pre y j p h
      have hyq : y ∈ q := ke.reach hx p.reach
      have hpl := (ke.path hx p).1
      have hyl : q.idxOf y < q.length := List.idxOf_lt_length_of_mem hyq
      have hlast : xsub (bname 9) (op1 negD (xk (.int 1))) [c0, c1, .own (encF (q.filter (hasNx s q)) (nxD s q)), c3, c4, c5, c6, c7, c8, .own (encL (pre ++ [y])), .frz (encN t)] σ = some (encN y, σ) :=
        xsub_eq rfl rfl (idx_lastN pre y (by lia))
      have htest := t2_eq (g := inD) hlast (f2 := bname 2) rfl (inD_encF (q.filter (hasNx s q)) (nxD s q) y)
      have hc : (q.filter (hasNx s q)).contains y = hasNx s q y := by
        rw [Bool.eq_iff_iff]
        simp [hyq]
      rw [hc] at htest
      cases hnx : hasNx s q y with
      | false =>
        rw [hnx] at htest
        have h' : nxt s q y = none := by unfold hasNx at hnx; simpa using hnx
        obtain ⟨r, j', h1, h2, h3⟩ := ih pre y (.frz (encN t)) p (.inl h')
        refine ⟨r, j', h1, h2, ?_⟩
        rw [List.map_cons]
        have hb : lr2 [c0, c1, .own (encF (q.filter (hasNx s q)) (nxD s q)), c3, c4, c5, c6, c7, c8, .own (encL (pre ++ [y])), .frz (encN t)] σ = some (.next, [c0, c1, .own (encF (q.filter (hasNx s q)) (nxD s q)), c3, c4, c5, c6, c7, c8, .own (encL (pre ++ [y])), .frz (encN t)], σ) :=
          seq1 (if_f htest rfl) rfl
        exact (forL_next rfl hb).trans h3
      | true =>
        rw [hnx] at htest
        obtain ⟨g, hE⟩ := Option.isSome_iff_exists.mp hnx
        have h' : ts.length + (pre ++ [y]).length = s.length := by
          rcases h with h | h
          · rw [hE] at h; cases h
          · simp at h ⊢; lia
        obtain ⟨r, j', h1, h2, h3⟩ := ih (pre ++ [y]) g (.frz (encN t)) (p.snoc hE) (.inr h')
        refine ⟨r, j', h1, h2, ?_⟩
        rw [List.map_cons]
        have hv : xsub (bname 2) (xsub (bname 9) (op1 negD (xk (.int 1)))) [c0, c1, .own (encF (q.filter (hasNx s q)) (nxD s q)), c3, c4, c5, c6, c7, c8, .own (encL (pre ++ [y])), .frz (encN t)] σ = some (encN g, σ) :=
          xsub_eq rfl hlast (by rw [subS_encF (List.mem_filter.mpr ⟨hyq, hnx⟩), nx_getD hE])
        have hb : lr2 [c0, c1, .own (encF (q.filter (hasNx s q)) (nxD s q)), c3, c4, c5, c6, c7, c8, .own (encL (pre ++ [y])), .frz (encN t)] σ = some (.next, [c0, c1, .own (encF (q.filter (hasNx s q)) (nxD s q)), c3, c4, c5, c6, c7, c8, .own (encL (pre ++ [y] ++ [g])), .frz (encN t)], σ) :=
          seq1 (if_t htest (seq1 (sappend_encL (l := pre ++ [y]) (g := g) rfl hv (by simp; lia)) rfl)) rfl
        exact (forL_next rfl hb).trans h3
  exact key _ [] x J .nil (.inr (by simp))
noncomputable def lr3 : SF := (sseq (sif (t2 ninD (bname 3) (bname 4)) (sseq (sset 9 (cown (xlist (lcons (xname 3) lnil))))
  (sseq (sfor (irange (op1 lenD (bname 0))) (tname 10) lr2)
  (sfrz 9 (sseq (sappend 5 (xname 9))
  snil)))) snil)
  snil)
theorem sec_eq {s : Scene} {q : List Nat} (gq : GoodQ s.length q) (ok : OkS s) (σ : Src) (c0 c1 c3 c4 c5 c6 c7 c8 c9 c10 : Cell) :
    ∃ S : List Nat, (∀ g, g ∈ S ↔ Sec q (nxt s q) g) ∧ xcomp [2] (ival (op1 sortKD (bname 2))) cbname tt (xsub (bname 0) (bname 1)) [c0, c1, .own (encF (q.filter (hasNx s q)) (nxD s q)), c3, c4, c5, c6, c7, c8, c9, c10] σ = some (encL S, σ) := by
  have hn := ok.len
  have hql := gq.len
  have hfl : (q.filter (hasNx s q)).length ≤ q.length := List.length_filter_le _ _
  obtain ⟨K', hp, hs⟩ := sortK_eq (q.filter (hasNx s q)) (nxD s q) (by lia)
  refine ⟨K'.map fun b => (nxt s q b).getD 0, fun g => ?_, ?_⟩
  · rw [List.mem_map]
    constructor
    · rintro ⟨b, hb, rfl⟩
      have hb := List.mem_filter.mp (hp.mem_iff.mp hb)
      obtain ⟨g, hg⟩ := Option.isSome_iff_exists.mp (show (nxt s q b).isSome = true from hb.2)
      exact ⟨b, hb.1, by rw [hg]; rfl⟩
    · rintro ⟨b, hb, e⟩
      refine ⟨b, hp.mem_iff.mpr (List.mem_filter.mpr ⟨hb, by unfold hasNx; rw [e]; rfl⟩), by rw [e]; rfl⟩
  · refine xcomp_eq (ds := K'.map encN) (ival_list (op1_eq rfl hs)) (by rw [List.length_map, hp.length_eq]; lia) rfl ?_
    show compL cbname tt _ [.own (encF (q.filter (hasNx s q)) (nxD s q))] _ σ = _
    have := compL_gen (cb := cbname) (t := tt) (f := xsub (bname 0) (bname 1)) (ρc := [.own (encF (q.filter (hasNx s q)) (nxD s q))]) (σ := σ) encN (fun y => [encN y]) (fun _ => true) (nxD s q) K' (fun _ _ => rfl) (fun _ _ => rfl)
      (fun y hy _ => xsub_eq rfl rfl (subS_encF (hp.mem_iff.mp hy)))
    rw [this]
    congr 2
    rw [List.filter_eq_self.mpr (fun _ _ => rfl), List.map_map]
    rfl
theorem lrows_ok {s : Scene} (ok : OkS s) {q : List Nat} (gq : GoodQ s.length q) (ke : EOk q (nxt s q)) (σ : Src) :
    ∃ R, Rows q (nxt s q) q R ∧ F_law_rows [encScene s, encL q] σ = some (encLL R, σ) := by
  refine gen ?_; intro GG kGG
  have hn := ok.len
  have hql := gq.len
  obtain ⟨j3, j6, j7, j8, l1⟩ := lr1_loop ok gq σ .un .un .un .un
  obtain ⟨S, hS, hsec⟩ := sec_eq gq ok σ (.frz (encScene s)) (.frz (encL q)) j3 .un .un j6 j7 j8 .un .un
  refine kGG ?_; clear kGG
  generalize hB : Cell.own (encF (q.filter (hasNx s q)) (nxD s q)) = B at *
  refine gen ?_; intro GG kGG
  obtain ⟨ρ', e, done, rest, R, k3, k9, k10, e1, e2, e3, e4, e5⟩ := forL_inv (tg := tname 3) (body := lr3) (σ := σ)
    (fun ds ρ => ∃ done rest R k3 k9 k10, ds = rest.map encN ∧ q = done ++ rest ∧ Rows q (nxt s q) done R ∧ R.length ≤ done.length ∧
      ρ = [.frz (encScene s), .frz (encL q), B, k3, .frz (encL S), .own (encLL R), j6, j7, j8, k9, k10])
    (fun d ds ρ hI => by
      obtain ⟨done, rest, R, k3, k9, k10, h1, h2, h3, h4, h5⟩ := hI
      obtain ⟨x, rest, rfl, rfl, rfl⟩ := cons_map h1
      subst h5
      have hx : x ∈ q := by rw [h2]; simp
      have hq' : q = (done ++ [x]) ++ rest := by rw [List.append_assoc]; exact h2
      have hdl : done.length ≤ q.length := by rw [h2]; simp
      have hin : t2 ninD (bname 3) (bname 4) [.frz (encScene s), .frz (encL q), B, .frz (encN x), .frz (encL S), .own (encLL R), j6, j7, j8, k9, k10] σ = some (!S.contains x, σ) := t2_eq rfl rfl (ninD_encN _ x)
      cases hb : S.contains x with
      | true =>
        rw [hb] at hin
        have sx : Sec q (nxt s q) x := (hS x).mp (by simpa using hb)
        exact ⟨_, [.frz (encScene s), .frz (encL q), B, .frz (encN x), .frz (encL S), .own (encLL R), j6, j7, j8, k9, k10], rfl, .inl (seq1 (if_f hin rfl) rfl), done ++ [x], rest, R, .frz (encN x), k9, k10, rfl, hq', h3.skip sx, by simp; lia, rfl⟩
      | false =>
        rw [hb] at hin
        have sx : ¬ Sec q (nxt s q) x := fun h => by have := (hS x).mpr h; simp [this] at hb
        obtain ⟨r, j, r1, r2, r3⟩ := lr2_loop ok gq ke σ hx (.frz (encScene s)) (.frz (encL q)) (.frz (encN x)) (.frz (encL S)) (.own (encLL R)) j6 j7 j8 k10
        rw [hB] at r3
        refine ⟨_, [.frz (encScene s), .frz (encL q), B, .frz (encN x), .frz (encL S), .own (encLL (R ++ [r])), j6, j7, j8, .frz (encL r), j], rfl, .inl ?_, done ++ [x], rest, R ++ [r], .frz (encN x), .frz (encL r), j, rfl, hq', h3.row sx r1, by simp; lia, rfl⟩
        refine seq1 (if_t hin (seq1 (sset_eq (cown_eq (xlist_eq (lcons_eq rfl rfl) (by simp)))) (seq1 (sfor_eq (irange_eq (len_scene ok rfl) (by lia)) r3) (xsetR rfl (seq1 (sappend_eq (ds := R.map encL) (d := encL r) rfl rfl (by rw [List.length_map]; lia)) rfl))))) ?_
        unfold encLL
        rw [List.map_append]
        rfl)
    (ds := q.map encN) (ρ := [.frz (encScene s), .frz (encL q), B, j3, .frz (encL S), .own (encLL []), j6, j7, j8, .un, .un])
    ⟨[], q, [], j3, .un, .un, rfl, rfl, .nil, Nat.le_refl _, rfl⟩
  have : rest = [] := by simpa using e1.symm
  subst this
  have : done = q := by simpa using e2.symm
  subst this
  subst e5
  refine kGG ?_; clear kGG
  refine ⟨R, e3, fdef_eq rfl (show f_law_rows _ _ = _ from by
    unfold f_law_rows
    have hpar : spar [4, 5] (lccons (cfrz (xcomp [2] (ival (op1 sortKD (bname 2))) cbname tt (xsub (bname 0) (bname 1)))) (lccons (cown (xlist lnil)) lcnil)) [.frz (encScene s), .frz (encL done), B, j3, .un, .un, j6, j7, j8, .un, .un] σ =
        some (.next, [.frz (encScene s), .frz (encL done), B, j3, .frz (encL S), .own (encLL []), j6, j7, j8, .un, .un], σ) := by
      have h1 := cfrz_eq hsec
      unfold spar lccons
      rw [h1]
      rfl
    exact seq1 rfl (seq1 (sfor_eq rfl l1) (seq1 hpar (seq1 (sfor_eq rfl e) rfl))))⟩
end Mine
end
section
open PySem
set_option linter.unusedVariables false
namespace Mine
/-! ## ways as numbers -/
noncomputable def num : List Nat → Nat
  | [] => 0
  | a :: as => (a + 1) * 8 ^ as.length + num as
noncomputable def Dig (v : List Nat) : Prop := ∀ a ∈ v, a ≤ 3
theorem num_snoc : ∀ (v : List Nat) (a : Nat), num (v ++ [a]) = 8 * num v + a + 1
  | [], a => by simp [num]; 
  | b :: v, a => by
    rw [List.cons_append, num, num, num_snoc v a, List.length_append, List.length_singleton, Nat.pow_succ]
    have : (b + 1) * (8 ^ v.length * 8) = 8 * ((b + 1) * 8 ^ v.length) := by rw [Nat.mul_comm (8 ^ v.length) 8, Nat.mul_left_comm]
    lia
theorem num_lt : ∀ {v : List Nat}, Dig v → num v < 8 ^ v.length
  | [], _ => by simp [num]
  | b :: v, h => by
    have ih := num_lt (v := v) fun a ha => h a (.tail _ ha)
    have hb := h b (.head _)
    rw [num, List.length_cons, Nat.pow_succ]
    have : (b + 1) * 8 ^ v.length ≤ 4 * 8 ^ v.length := Nat.mul_le_mul_right _ (by lia)
    lia
theorem num_ge : ∀ (v : List Nat), v ≠ [] → 8 ^ (v.length - 1) ≤ num v
  | [], h => absurd rfl h
  | b :: v, _ => by
    rw [num, List.length_cons, Nat.add_sub_cancel]
    have : 1 * 8 ^ v.length ≤ (b + 1) * 8 ^ v.length := Nat.mul_le_mul_right _ (by lia)
    lia
theorem num_len {v w : List Nat} (hv : Dig v) (hl : v.length < w.length) : num v < num w := by
  have h1 := num_lt hv
  have h2 := num_ge w (fun e => by subst e; simp at hl)
  have : 8 ^ v.length ≤ 8 ^ (w.length - 1) := Nat.pow_le_pow_right (by lia) (by lia)
  lia
theorem num_inj : ∀ {v w : List Nat}, Dig v → Dig w → v.length = w.length → num v = num w → v = w
  | [], [], _, _, _, _ => rfl
  | [], _ :: _, _, _, h, _ => by simp at h
  | _ :: _, [], _, _, h, _ => by simp at h
  | a :: v, b :: w, hv, hw, hl, h => by
    have hv' : Dig v := fun x hx => hv x (.tail _ hx)
    have hw' : Dig w := fun x hx => hw x (.tail _ hx)
    have hl' : v.length = w.length := by simpa using hl
    have h1 := num_lt hv'
    have h2 := num_lt hw'
    rw [num, num, ← hl'] at h
    rw [← hl'] at h2
    have e : a = b := by
      rcases Nat.lt_trichotomy a b with c | c | c
      · have : (a + 1 + 1) * 8 ^ v.length ≤ (b + 1) * 8 ^ v.length := Nat.mul_le_mul_right _ (by lia)
        rw [Nat.add_mul (a + 1)] at this
        lia
      · exact c
      · have : (b + 1 + 1) * 8 ^ v.length ≤ (a + 1) * 8 ^ v.length := Nat.mul_le_mul_right _ (by lia)
        rw [Nat.add_mul (b + 1)] at this
        lia
    subst e
    rw [num_inj hv' hw' hl' (by lia)]
theorem num_eq {v w : List Nat} (hv : Dig v) (hw : Dig w) (h : num v = num w) : v = w := by
  rcases Nat.lt_trichotomy v.length w.length with c | c | c
  · have := num_len hv c; lia
  · exact num_inj hv hw c h
  · have := num_len hw c; lia
noncomputable def lexB : List Nat → List Nat → Bool
  | a :: as, b :: bs => if a = b then lexB as bs else decide (a < b)
  | _, _ => false
theorem lexB_cons (a b : Nat) (v w : List Nat) : lexB (a :: v) (b :: w) = if a = b then lexB v w else decide (a < b) := rfl
noncomputable def sltB (v w : List Nat) : Bool := if v.length = w.length then lexB v w else decide (v.length < w.length)
theorem lexB_num : ∀ {v w : List Nat}, Dig v → Dig w → v.length = w.length → lexB v w = decide (num v < num w)
  | [], [], _, _, _ => rfl
  | [], _ :: _, _, _, h => by simp at h
  | _ :: _, [], _, _, h => by simp at h
  | a :: v, b :: w, hv, hw, hl => by
    have hv' : Dig v := fun x hx => hv x (.tail _ hx)
    have hw' : Dig w := fun x hx => hw x (.tail _ hx)
    have hl' : v.length = w.length := by simpa using hl
    have h1 := num_lt hv'
    have h2 := num_lt hw'
    rw [num, num, lexB_cons, ← hl']
    rw [← hl'] at h2
    by_cases c : a = b
    · subst c
      rw [if_pos rfl, lexB_num hv' hw' hl']
      rw [decide_eq_decide]
      lia
    · rw [if_neg c, decide_eq_decide]
      rcases Nat.lt_or_gt_of_ne c with c | c
      · have : (a + 1 + 1) * 8 ^ v.length ≤ (b + 1) * 8 ^ v.length := Nat.mul_le_mul_right _ (by lia)
        rw [Nat.add_mul (a + 1)] at this
        lia
      · have : (b + 1 + 1) * 8 ^ v.length ≤ (a + 1) * 8 ^ v.length := Nat.mul_le_mul_right _ (by lia)
        rw [Nat.add_mul (b + 1)] at this
        lia
theorem sltB_num {v w : List Nat} (hv : Dig v) (hw : Dig w) : sltB v w = decide (num v < num w) := by
  unfold sltB
  split
  · rename_i h; exact lexB_num hv hw h
  · rename_i h
    rw [decide_eq_decide]
    rcases Nat.lt_or_gt_of_ne h with c | c
    · have := num_len hv c; lia
    · have := num_len hw c; lia
theorem num_le_len {v w : List Nat} (hv : Dig v) (hw : Dig w) (h : num v ≤ num w) : v.length ≤ w.length := by
  refine Nat.le_of_not_lt fun c => ?_
  have := num_len hw c
  lia
/-! ## the order of discovery -/
structure BI (s : Scene) (Dn : Nat → Nat → Prop) (q : List Nat) (V : Nat → List Nat) : Prop where
  good : GoodQ s.length q
  zero : 0 ∈ q
  v0 : V 0 = []
  dig : ∀ b, Dig (V b)
  asc : q.Pairwise fun a b => num (V a) < num (V b)
  dq : ∀ p a, Dn p a → p ∈ q
  closed : ∀ p a g, Dn p a → (succs s p)[a]? = some g → g ∈ q ∧ num (V g) ≤ 8 * num (V p) + a + 1
  tree : ∀ g ∈ q, g ≠ 0 → ∃ p a, Dn p a ∧ (succs s p)[a]? = some g ∧ V g = V p ++ [a]
theorem succs_at {s : Scene} (ok : OkS s) {x a g : Nat} (h : (succs s x)[a]? = some g) : a ≤ 3 := by
  have := succs_len ok x
  have : a < (succs s x).length := by
    rcases Nat.lt_or_ge a (succs s x).length with c | c
    · exact c
    · rw [List.getElem?_eq_none c] at h; cases h
  lia
theorem BI.step {s : Scene} (ok : OkS s) {Dn : Nat → Nat → Prop} {q : List Nat} {V : Nat → List Nat} (b : BI s Dn q V) {x a g : Nat} (hx : x ∈ q) (hg : (succs s x)[a]? = some g)
    (fr : ∀ p a', Dn p a' → a' ≤ 3 → 8 * num (V p) + a' < 8 * num (V x) + a) :
    ∃ V', (∀ y ∈ q, V' y = V y) ∧ BI s (fun p a' => Dn p a' ∨ (p = x ∧ a' = a)) (addK q g) V' := by
  have ha := succs_at ok hg
  have hgn : g < s.length := succs_lt ok (List.mem_of_getElem? hg)
  have top : ∀ y ∈ q, num (V y) < 8 * num (V x) + a + 1 := by
    intro y hy
    by_cases h0 : y = 0
    · subst h0; rw [b.v0]; simp [num]
    · obtain ⟨p, a', h1, h2, h3⟩ := b.tree y hy h0
      have := fr p a' h1 (succs_at ok h2)
      rw [h3, num_snoc]
      lia
  by_cases hc : g ∈ q
  · refine ⟨V, fun _ _ => rfl, ?_⟩
    have hk : addK q g = q := by unfold addK; rw [if_pos (by simpa using hc)]
    rw [hk]
    refine ⟨b.good, b.zero, b.v0, b.dig, b.asc, ?_, ?_, ?_⟩
    · rintro p a' (h | ⟨rfl, _⟩)
      · exact b.dq p a' h
      · exact hx
    · rintro p a' g' (h | ⟨rfl, rfl⟩) hg'
      · exact b.closed p a' g' h hg'
      · rw [hg] at hg'; cases hg'
        exact ⟨hc, Nat.le_of_lt (top g hc)⟩
    · intro g' hg' h0
      obtain ⟨p, a', h1, h2, h3⟩ := b.tree g' hg' h0
      exact ⟨p, a', .inl h1, h2, h3⟩
  · have hk : addK q g = q ++ [g] := by unfold addK; rw [if_neg (by simpa using hc)]
    rw [hk]
    have hV : ∀ y ∈ q, updF V g (V x ++ [a]) y = V y := fun y hy => by
      unfold updF; rw [if_neg]; rintro rfl; exact hc hy
    have hVg : updF V g (V x ++ [a]) g = V x ++ [a] := by unfold updF; rw [if_pos rfl]
    refine ⟨updF V g (V x ++ [a]), hV, ⟨?_, ?_, ?_, ?_, ?_, ?_, ?_, ?_⟩⟩
    · have := addK_nodup (g := g) b.good.nd
      rw [hk] at this
      refine ⟨this, fun y hy => ?_⟩
      rcases List.mem_append.mp hy with hy | hy
      · exact b.good.lt y hy
      · simp at hy; subst hy; exact hgn
    · exact List.mem_append_left _ b.zero
    · rw [hV 0 b.zero, b.v0]
    · intro y
      by_cases e : y = g
      · subst e
        rw [hVg]
        intro z hz
        rcases List.mem_append.mp hz with hz | hz
        · exact b.dig x z hz
        · simp at hz; subst hz; exact ha
      · have : updF V g (V x ++ [a]) y = V y := by unfold updF; rw [if_neg e]
        rw [this]; exact b.dig y
    · rw [List.pairwise_append]
      refine ⟨?_, List.pairwise_singleton _ _, ?_⟩
      · exact b.asc.imp_of_mem fun {y z} hy hz h => by rw [hV y hy, hV z hz]; exact h
      · intro y hy z hz
        simp at hz; subst hz
        rw [hV y hy, hVg, num_snoc]
        exact top y hy
    · rintro p a' (h | ⟨rfl, _⟩)
      · exact List.mem_append_left _ (b.dq p a' h)
      · exact List.mem_append_left _ hx
    · rintro p a' g' (h | ⟨rfl, rfl⟩) hg'
      · have := b.closed p a' g' h hg'
        refine ⟨List.mem_append_left _ this.1, ?_⟩
        rw [hV g' this.1, hV p (b.dq p a' h)]
        exact this.2
      · rw [hg] at hg'; cases hg'
        refine ⟨by simp, ?_⟩
        rw [hVg, hV p hx, num_snoc]
        exact Nat.le_refl _
    · intro g' hg' h0
      rcases List.mem_append.mp hg' with hg' | hg'
      · obtain ⟨p, a', h1, h2, h3⟩ := b.tree g' hg' h0
        exact ⟨p, a', .inl h1, h2, by rw [hV g' hg', hV p (b.dq p a' h1)]; exact h3⟩
      · simp at hg'; subst hg'
        exact ⟨x, a, .inr ⟨rfl, rfl⟩, hg, by rw [hVg, hV x hx]⟩
theorem BI.congr {s : Scene} {Dn Dn' : Nat → Nat → Prop} {q : List Nat} {V : Nat → List Nat} (b : BI s Dn q V) (h : ∀ p a, Dn p a ↔ Dn' p a) : BI s Dn' q V :=
  ⟨b.good, b.zero, b.v0, b.dig, b.asc, fun p a e => b.dq p a ((h p a).mpr e), fun p a g e => b.closed p a g ((h p a).mpr e), fun g hg h0 => by
    obtain ⟨p, a, h1, h2⟩ := b.tree g hg h0
    exact ⟨p, a, (h p a).mp h1, h2⟩⟩
noncomputable def DnIn (s : Scene) (done : List Nat) (x at_ : Nat) (p a : Nat) : Prop := (p ∈ done ∧ a < (succs s p).length) ∨ (p = x ∧ a < at_)
theorem BI.inner {s : Scene} (ok : OkS s) {done : List Nat} {x : Nat} : ∀ (gs : List Nat) (at_ : Nat) (q : List Nat) (V : Nat → List Nat), (succs s x).drop at_ = gs → BI s (DnIn s done x at_) q V → x ∈ q → (∀ p ∈ done, p ∈ q ∧ num (V p) < num (V x)) →
    ∃ V', (∀ y ∈ q, V' y = V y) ∧ BI s (DnIn s done x (at_ + gs.length)) (eachGo q (gs.map some)) V'
  | [], at_, q, V, hd, b, hx, hp => ⟨V, fun _ _ => rfl, b⟩
  | g :: gs, at_, q, V, hd, b, hx, hp => by
    have hg : (succs s x)[at_]? = some g := by
      have := congrArg (fun l => l[0]?) hd
      simpa [List.getElem?_drop] using this
    have hd' : (succs s x).drop (at_ + 1) = gs := by
      have := congrArg (fun l => l.drop 1) hd
      simpa [List.drop_drop] using this
    obtain ⟨V', h1, h2⟩ := b.step ok hx hg (by
      rintro p a' (⟨h, _⟩ | ⟨rfl, h⟩) h3
      · have := (hp p h).2; lia
      · lia)
    have h3 : BI s (DnIn s done x (at_ + 1)) (addK q g) V' := h2.congr fun p a => by
      unfold DnIn
      constructor
      · rintro ((h | ⟨rfl, h⟩) | ⟨rfl, rfl⟩)
        · exact .inl h
        · exact .inr ⟨rfl, by lia⟩
        · exact .inr ⟨rfl, by lia⟩
      · rintro (h | ⟨rfl, h⟩)
        · exact .inl (.inl h)
        · rcases Nat.lt_or_ge a at_ with c | c
          · exact .inl (.inr ⟨rfl, c⟩)
          · exact .inr ⟨rfl, by lia⟩
    have hsub : ∀ y ∈ q, y ∈ addK q g := fun y hy => mem_addK.mpr (.inl hy)
    obtain ⟨V'', h4, h5⟩ := BI.inner ok gs (at_ + 1) (addK q g) V' hd' h3 (hsub x hx) (fun p h => ⟨hsub p (hp p h).1, by rw [h1 p (hp p h).1, h1 x hx]; exact (hp p h).2⟩)
    refine ⟨V'', fun y hy => by rw [h4 y (hsub y hy), h1 y hy], ?_⟩
    have e1 : eachGo q ((g :: gs).map some) = eachGo (addK q g) (gs.map some) := by
      rw [eachGo_some]; unfold addK; split <;> rfl
    have e2 : at_ + (g :: gs).length = at_ + 1 + gs.length := by simp; lia
    rw [e1, e2]
    exact h5
theorem BI.bfs {s : Scene} (ok : OkS s) : ∀ (f i : Nat) (q : List Nat) (V : Nat → List Nat), f + i = s.length → i ≤ q.length → BI s (fun p a => p ∈ q.take i ∧ a < (succs s p).length) q V →
    ∃ V', BI s (fun p a => p ∈ bfs s f i q ∧ a < (succs s p).length) (bfs s f i q) V'
  | 0, i, q, V, hf, hi, b => by
    refine ⟨V, ?_⟩
    have := b.good.len
    have e : q.take i = q := List.take_of_length_le (by lia)
    rw [e] at b
    exact b
  | f + 1, i, q, V, hf, hi, b => by
    rw [bfs_succ]
    by_cases h : i < q.length
    · rw [List.getElem?_eq_getElem h]
      dsimp only
      have hb : BI s (DnIn s (q.take i) q[i] 0) q V := b.congr fun p a => by
        unfold DnIn
        constructor
        · exact .inl
        · rintro (h | ⟨_, h⟩)
          · exact h
          · lia
      have hpa : ∀ p ∈ q.take i, p ∈ q ∧ num (V p) < num (V q[i]) := by
        intro p hp
        refine ⟨List.mem_of_mem_take hp, ?_⟩
        have hs : q = q.take i ++ q[i] :: q.drop (i + 1) := by
          rw [← List.drop_eq_getElem_cons h, List.take_append_drop]
        have := b.asc
        rw [hs] at this
        exact (List.pairwise_append.mp this).2.2 p hp q[i] (.head _)
      obtain ⟨V', h1, h2⟩ := BI.inner ok (succs s q[i]) 0 q V rfl hb (List.getElem_mem h) hpa
      have hpre := eachGo_prefix ((succs s q[i]).map some) q
      have htk : q.take i ++ [q[i]] = (eachGo q ((succs s q[i]).map some)).take (i + 1) := by
        obtain ⟨r, hr⟩ := hpre
        rw [← hr, List.take_append_of_le_length h, List.take_append_getElem h]
      refine BI.bfs ok f (i + 1) _ V' (by lia) (Nat.le_trans h hpre.length_le) (h2.congr fun p a => ?_)
      rw [← htk]
      unfold DnIn
      rw [List.mem_append, List.mem_singleton, Nat.zero_add]
      constructor
      · rintro (h | ⟨rfl, h⟩)
        · exact ⟨.inl h.1, h.2⟩
        · exact ⟨.inr rfl, h⟩
      · rintro ⟨h | rfl, h'⟩
        · exact .inl ⟨h, h'⟩
        · exact .inr ⟨rfl, h'⟩
    · rw [List.getElem?_eq_none (by lia)]
      have e : q.take i = q := List.take_of_length_le (by lia)
      rw [e] at b
      exact ⟨V, b⟩
/-- what the walk in breadth finds -/
structure Found (s : Scene) (q : List Nat) (V : Nat → List Nat) : Prop where
  good : GoodQ s.length q
  zero : 0 ∈ q
  v0 : V 0 = []
  dig : ∀ b, Dig (V b)
  asc : q.Pairwise fun a b => num (V a) < num (V b)
  closed : ∀ p a g, p ∈ q → (succs s p)[a]? = some g → g ∈ q ∧ num (V g) ≤ 8 * num (V p) + a + 1
  tree : ∀ g ∈ q, g ≠ 0 → ∃ p a, p ∈ q ∧ (succs s p)[a]? = some g ∧ V g = V p ++ [a]
theorem found_bfs {s : Scene} (ok : OkS s) : ∃ V, Found s (bfs s s.length 0 [0]) V := by
  obtain ⟨V, b⟩ := BI.bfs ok s.length 0 [0] (fun _ => []) rfl (by simp) {
    good := ⟨by simp, fun x hx => by simp at hx; subst hx; exact ok.pos⟩
    zero := by simp
    v0 := rfl
    dig := fun _ _ h => nomatch h
    asc := List.pairwise_singleton _ _
    dq := fun p a h => by simp at h
    closed := fun p a g h => by simp at h
    tree := fun g hg h0 => by simp at hg; exact absurd hg h0 }
  refine ⟨V, b.good, b.zero, b.v0, b.dig, b.asc, fun p a g hp hg => b.closed p a g ⟨hp, ?_⟩ hg, fun g hg h0 => ?_⟩
  · rcases Nat.lt_or_ge a (succs s p).length with c | c
    · exact c
    · rw [List.getElem?_eq_none c] at hg; cases hg
  · obtain ⟨p, a, h1, h2⟩ := b.tree g hg h0
    exact ⟨p, a, h1.1, h2⟩
theorem Found.lt {s : Scene} {q : List Nat} {V : Nat → List Nat} (f : Found s q V) {x y : Nat} (hx : x ∈ q) (hy : y ∈ q) (h : num (V x) < num (V y)) : q.idxOf x < q.idxOf y := by
  refine Nat.lt_of_not_le fun c => ?_
  have hxl := List.idxOf_lt_length_of_mem hx
  have hyl := List.idxOf_lt_length_of_mem hy
  rcases Nat.lt_or_eq_of_le c with c | c
  · have := List.pairwise_iff_getElem.mp f.asc _ _ hyl hxl c
    rw [List.getElem_idxOf, List.getElem_idxOf] at this
    lia
  · have e : q[q.idxOf x]'hxl = q[q.idxOf y]'hyl := by congr 1; exact c.symm
    rw [List.getElem_idxOf, List.getElem_idxOf] at e
    subst e
    lia
theorem Found.eok {s : Scene} {q : List Nat} {V : Nat → List Nat} (f : Found s q V) : EOk q (nxt s q) := by
  have one : ∀ a b g, a ∈ q → b ∈ q → tally s q g = 1 → g ∈ succs s a → g ∈ succs s b → a = b := by
    intro a b g ha hb ht h1 h2
    obtain ⟨c, hc⟩ := List.length_eq_one_iff.mp (show (q.filter fun x => (succs s x).contains g).length = 1 from ht)
    have e1 : a ∈ [c] := hc ▸ List.mem_filter.mpr ⟨ha, by simpa using h1⟩
    have e2 : b ∈ [c] := hc ▸ List.mem_filter.mpr ⟨hb, by simpa using h2⟩
    simp at e1 e2
    rw [e1, e2]
  refine ⟨f.good.nd, fun a b g ha hb h1 h2 => ?_, fun a g ha h => ?_⟩
  · obtain ⟨g1, _, t1⟩ := nxt_some.mp h1
    obtain ⟨g2, _, _⟩ := nxt_some.mp h2
    exact one a b g ha hb t1 (by rw [succs_goto g1]; exact .head _) (by rw [succs_goto g2]; exact .head _)
  · obtain ⟨g1, g0, t1⟩ := nxt_some.mp h
    have hs := succs_goto g1
    have hc := f.closed a 0 g ha (by rw [hs]; rfl)
    refine ⟨hc.1, ?_⟩
    obtain ⟨p, a', h1, h2, h3⟩ := f.tree g hc.1 g0
    have e := one a p g ha h1 t1 (by rw [hs]; exact .head _) (List.mem_of_getElem? h2)
    subst e
    refine f.lt ha hc.1 ?_
    rw [h3, num_snoc]
    lia
theorem Found.short {s : Scene} {q : List Nat} {V : Nat → List Nat} (f : Found s q V) : ∀ (k g : Nat), g ∈ q → q.idxOf g ≤ k → (V g).length ≤ k := by
  intro k
  induction k with
  | zero =>
    intro g hg hk
    by_cases h0 : g = 0
    · subst h0; rw [f.v0]; simp
    · obtain ⟨p, a, h1, h2, h3⟩ := f.tree g hg h0
      have := f.lt h1 hg (by rw [h3, num_snoc]; lia)
      lia
  | succ k ih =>
    intro g hg hk
    by_cases h0 : g = 0
    · subst h0; rw [f.v0]; simp
    · obtain ⟨p, a, h1, h2, h3⟩ := f.tree g hg h0
      have := f.lt h1 hg (by rw [h3, num_snoc]; lia)
      have := ih p h1 (by lia)
      rw [h3]
      simp
      lia
end Mine
end
section
open PySem
set_option linter.unusedVariables false
namespace Mine
/-! ## _law_met -/
noncomputable def encW (w : List Nat) : D := .tup (w.map encN)
noncomputable def wD (W : Nat → List Nat) : Nat → D := fun b => encW (W b)
theorem updF_w (W : Nat → List Nat) (g : Nat) (w : List Nat) : updF (wD W) g (encW w) = wD (updF W g w) := by
  funext k; unfold updF wD; by_cases e : k = g <;> simp [e]
theorem eqv_encW (v w : List Nat) : PyData.eqv (py (encW v)) (py (encW w)) = (v == w) := by
  show PyData.eqv (.tuple (pys (v.map encN))) (.tuple (pys (w.map encN))) = _
  rw [PyData.eqv, eqv_encLs]
theorem ltDs_nat (n : Nat) : ∀ v w : List Nat, v.length = w.length → ltDs (ltDn n) (v.map encN) (w.map encN) false = some (lexB v w)
  | [], [], _ => by rfl
  | [], _ :: _, h => by simp at h
  | _ :: _, [], h => by simp at h
  | a :: v, b :: w, h => by
    rw [List.map_cons, List.map_cons, ltDs_cons]
    show (if PyData.eqv (.int (a : Int)) (.int (b : Int)) = true then _ else ltDn n (.int (a : Int)) (.int (b : Int))) = _
    rw [eqv_int, lexB_cons]
    by_cases e : a = b
    · subst e
      simp only [beq_self_eq_true, if_true]
      exact ltDs_nat n v w (by simpa using h)
    · rw [if_neg (by simpa using e), if_neg e, ltDn_int]
      congr 1
      rw [decide_eq_decide]
      lia
theorem lexB_self : ∀ v : List Nat, lexB v v = false
  | [] => rfl
  | a :: v => by rw [lexB_cons, if_pos rfl, lexB_self v]
theorem ltDn_encW (n : Nat) (v w : List Nat) (h : v.length = w.length) : ltDn (n + 1) (encW v) (encW w) = some (lexB v w) := by
  unfold encW
  rw [ltDn_tup, okDs_encN, okDs_encN, show (v.map encN).length = (w.map encN).length by simp [h]]
  simp only [Bool.and_self, if_true, Nat.lt_irrefl, decide_false]
  exact ltDs_nat n v w h
theorem ltDs_way (n : Nat) (v w : List Nat) (r r' : List D) (h : v ≠ w) : ltDs (ltDn (n + 1)) (.int (v.length : Int) :: encW v :: r) (.int (w.length : Int) :: encW w :: r') false = some (sltB v w) := by
  rw [ltDs_cons]
  show (if PyData.eqv (.int (v.length : Int)) (.int (w.length : Int)) = true then _ else ltDn (n + 1) (.int (v.length : Int)) (.int (w.length : Int))) = _
  rw [eqv_int]
  unfold sltB
  by_cases e : v.length = w.length
  · rw [if_pos (by simpa using e), if_pos e, ltDs_cons, eqv_encW, if_neg (by simpa using h)]
    exact ltDn_encW n v w e
  · rw [if_neg (by simpa using e), if_neg e, ltDn_int]
    congr 1
    rw [decide_eq_decide]
    lia
theorem okDs_way (k : Nat) (v : List Nat) : okDs (k + 1) [.int (v.length : Int), encW v] = true := by
  show (okD (k + 1) (.int (v.length : Int)) && (okDs k (v.map encN) && true)) = true
  rw [okDs_encN]
  rfl
theorem ltT_way (v w : List Nat) : ltT (.tup [.int (v.length : Int), encW v]) (.tup [.int (w.length : Int), encW w]) = some (.bool (sltB v w)) := by
  have h : ltDn 3 (.tup [.int (v.length : Int), encW v]) (.tup [.int (w.length : Int), encW w]) = some (sltB v w) := by
    rw [ltDn_tup, okDs_way 7, okDs_way 7]
    show ltDs (ltDn 2) [.int (v.length : Int), encW v] [.int (w.length : Int), encW w] false = _
    by_cases e : v = w
    · subst e
      rw [ltDs_cons]
      show (if PyData.eqv (.int (v.length : Int)) (.int (v.length : Int)) = true then _ else _) = _
      rw [eqv_int, if_pos (by simp), ltDs_cons, eqv_encW, if_pos (by simp)]
      show some false = _
      unfold sltB
      rw [if_pos rfl, lexB_self]
    · exact ltDs_way 1 v w [] [] e
  unfold ltT
  rw [h]
structure WInv (s : Scene) (q : List Nat) (V : Nat → List Nat) (ks : List Nat) (W : Nat → List Nat) : Prop where
  good : GoodQ s.length ks
  zero : 0 ∈ ks
  sub : ∀ b ∈ ks, b ∈ q ∧ Dig (W b) ∧ num (V b) ≤ num (W b) ∧ (W b).length < ks.length
noncomputable def Le (ks : List Nat) (W : Nat → List Nat) (ks' : List Nat) (W' : Nat → List Nat) : Prop := ∀ b ∈ ks, b ∈ ks' ∧ num (W' b) ≤ num (W b)
noncomputable def At (ks : List Nat) (W : Nat → List Nat) (g c : Nat) : Prop := g ∈ ks ∧ num (W g) ≤ c
theorem Le.refl (ks : List Nat) (W : Nat → List Nat) : Le ks W ks W := fun _ h => ⟨h, Nat.le_refl _⟩
theorem Le.trans {k1 k2 k3 : List Nat} {W1 W2 W3 : Nat → List Nat} (h : Le k1 W1 k2 W2) (h' : Le k2 W2 k3 W3) : Le k1 W1 k3 W3 := fun b hb =>
  ⟨(h' b (h b hb).1).1, Nat.le_trans (h' b (h b hb).1).2 (h b hb).2⟩
theorem At.le {ks ks' : List Nat} {W W' : Nat → List Nat} {g c c' : Nat} (a : At ks W g c) (h : Le ks W ks' W') (hc : c ≤ c') : At ks' W' g c' :=
  ⟨(h g a.1).1, Nat.le_trans (h g a.1).2 (Nat.le_trans a.2 hc)⟩
noncomputable def mtBody : SF := (sseq (sset 6 (cfrz (op2 addD (xsub (bname 1) (bname 3)) (xtup (lcons (xname 4) lnil)))))
  (sseq (sif (tor (t2 ninD (bname 5) (bname 1)) (t2 ltT (xtup (lcons (op1 lenD (bname 6)) (lcons (xname 6) lnil))) (xtup (lcons (op1 lenD (xsub (bname 1) (bname 5))) (lcons (xsub (bname 1) (bname 5)) lnil))))) (sseq (sput 1 (xname 5) (xname 6))
  snil) snil)
  snil))
theorem mt_step {s : Scene} (ok : OkS s) {q : List Nat} {V : Nat → List Nat} (fd : Found s q V) {ks : List Nat} {W : Nat → List Nat} (si : WInv s q V ks W) {p a g : Nat} (hp : p ∈ ks) (hg : (succs s p)[a]? = some g) (σ : Src) (J2 j6 : Cell) :
    ∃ ks' W' j6', WInv s q V ks' W' ∧ Le ks W ks' W' ∧ At ks' W' g (8 * num (W p) + a + 1) ∧
      mtBody [.frz (encScene s), .own (encF ks (wD W)), J2, .frz (encN p), .frz (encN a), .frz (encN g), j6] σ = some (.next, [.frz (encScene s), .own (encF ks' (wD W')), J2, .frz (encN p), .frz (encN a), .frz (encN g), j6'], σ) := by
  have ha := succs_at ok hg
  have hn := ok.len
  have hkl := si.good.len
  obtain ⟨hpq, hpd, hpn, hpl⟩ := si.sub p hp
  obtain ⟨hgq, hgc⟩ := fd.closed p a g hpq hg
  have hdw : Dig (W p ++ [a]) := fun z hz => by
    rcases List.mem_append.mp hz with hz | hz
    · exact hpd z hz
    · simp at hz; subst hz; exact ha
  have hnw : num (W p ++ [a]) = 8 * num (W p) + a + 1 := num_snoc _ _
  have hset : sset 6 (cfrz (op2 addD (xsub (bname 1) (bname 3)) (xtup (lcons (xname 4) lnil)))) [.frz (encScene s), .own (encF ks (wD W)), J2, .frz (encN p), .frz (encN a), .frz (encN g), j6] σ =
      some (.next, [.frz (encScene s), .own (encF ks (wD W)), J2, .frz (encN p), .frz (encN a), .frz (encN g), .frz (encW (W p ++ [a]))], σ) := by
    refine sset_eq (cfrz_eq (op2_eq (xsub_eq rfl rfl (subS_encF hp)) (xtup_eq (lcons_eq rfl rfl) (by simp)) ?_))
    show (if ((W p).map encN).length + [encN a].length ≤ 1000 then some (D.tup ((W p).map encN ++ [encN a])) else none) = _
    rw [if_pos (by simp; lia)]
    unfold encW
    rw [List.map_append]
    rfl
  have hnin : t2 ninD (bname 5) (bname 1) [.frz (encScene s), .own (encF ks (wD W)), J2, .frz (encN p), .frz (encN a), .frz (encN g), .frz (encW (W p ++ [a]))] σ = some (!ks.contains g, σ) := t2_eq rfl rfl (ninD_encF _ _ _)
  have hput : sput 1 (xname 5) (xname 6) [.frz (encScene s), .own (encF ks (wD W)), J2, .frz (encN p), .frz (encN a), .frz (encN g), .frz (encW (W p ++ [a]))] σ =
      some (.next, [.frz (encScene s), .own (encF (addK ks g) (wD (updF W g (W p ++ [a])))), J2, .frz (encN p), .frz (encN a), .frz (encN g), .frz (encW (W p ++ [a]))], σ) := by
    have := sput_encF (ρ := [.frz (encScene s), .own (encF ks (wD W)), J2, .frz (encN p), .frz (encN a), .frz (encN g), .frz (encW (W p ++ [a]))]) (σ := σ) (σ1 := σ) (i := 1) (fk := xname 5) (fv := xname 6) (ks := ks) (f := wD W) (g := g) (d := encW (W p ++ [a])) rfl rfl rfl (by lia)
    rw [this, updF_w]
    rfl
  have hWg : updF W g (W p ++ [a]) g = W p ++ [a] := by unfold updF; rw [if_pos rfl]
  have hWn : ∀ b, b ≠ g → updF W g (W p ++ [a]) b = W b := fun b e => by unfold updF; rw [if_neg e]
  have hNg : num (V g) ≤ num (W p ++ [a]) := by rw [hnw]; lia
  cases hc : ks.contains g with
  | false =>
    rw [hc] at hnin
    have hgk : g ∉ ks := fun h => by simp [h] at hc
    have hk : addK ks g = ks ++ [g] := by unfold addK; rw [hc]; rfl
    refine ⟨addK ks g, updF W g (W p ++ [a]), _, ⟨⟨addK_nodup si.good.nd, fun x hx => ?_⟩, mem_addK.mpr (.inl si.zero), fun b hb => ?_⟩, fun b hb => ?_, ⟨mem_addK.mpr (.inr rfl), by rw [hWg, hnw]; exact Nat.le_refl _⟩, seq1 hset (seq1 (if_t (tor_t hnin) (seq1 hput rfl)) rfl)⟩
    · rcases mem_addK.mp hx with h | rfl
      · exact si.good.lt x h
      · exact fd.good.lt _ hgq
    · rw [hk, List.length_append]
      by_cases e : b = g
      · subst e
        rw [hWg]
        refine ⟨hgq, hdw, hNg, by simp; lia⟩
      · rw [hWn b e]
        have hb' : b ∈ ks := (mem_addK.mp hb).resolve_right e
        obtain ⟨h1, h2, h3, h4⟩ := si.sub b hb'
        exact ⟨h1, h2, h3, by simp; lia⟩
    · refine ⟨mem_addK.mpr (.inl hb), ?_⟩
      rw [hWn b (fun e => hgk (e ▸ hb))]
      exact Nat.le_refl _
  | true =>
    rw [hc] at hnin
    have hgk : g ∈ ks := by simpa using hc
    have hk : addK ks g = ks := by unfold addK; rw [hc]; rfl
    obtain ⟨g1, g2, g3, g4⟩ := si.sub g hgk
    have hget : xsub (bname 1) (bname 5) [.frz (encScene s), .own (encF ks (wD W)), J2, .frz (encN p), .frz (encN a), .frz (encN g), .frz (encW (W p ++ [a]))] σ = some (encW (W g), σ) := xsub_eq rfl rfl (subS_encF hgk)
    have hlenW : ∀ w : List Nat, w.length ≤ 1000 → lenD (encW w) = some (.int (w.length : Int)) := fun w hw => by
      show (if (w.map encN).length ≤ 1000 then some (D.int ((w.map encN).length : Int)) else none) = _
      rw [List.length_map, if_pos hw]
    have hlt : t2 ltT (xtup (lcons (op1 lenD (bname 6)) (lcons (xname 6) lnil))) (xtup (lcons (op1 lenD (xsub (bname 1) (bname 5))) (lcons (xsub (bname 1) (bname 5)) lnil))) [.frz (encScene s), .own (encF ks (wD W)), J2, .frz (encN p), .frz (encN a), .frz (encN g), .frz (encW (W p ++ [a]))] σ = some (sltB (W p ++ [a]) (W g), σ) :=
      t2_eq (xtup_eq (lcons_eq (op1_eq rfl (hlenW _ (by simp; lia))) (lcons_eq rfl rfl)) (by simp)) (xtup_eq (lcons_eq (op1_eq hget (hlenW _ (by lia))) (lcons_eq hget rfl)) (by simp)) (ltT_way _ _)
    rw [sltB_num hdw g2] at hlt
    by_cases hb : num (W p ++ [a]) < num (W g)
    · rw [decide_eq_true hb] at hlt
      have hll := num_le_len hdw g2 (Nat.le_of_lt hb)
      refine ⟨addK ks g, updF W g (W p ++ [a]), _, ?_, fun b hb' => ?_, ⟨by rw [hk]; exact hgk, by rw [hWg, hnw]; exact Nat.le_refl _⟩, seq1 hset (seq1 (if_t ((tor_f hnin).trans hlt) (seq1 hput rfl)) rfl)⟩
      · rw [hk]
        refine ⟨si.good, si.zero, fun b hb' => ?_⟩
        by_cases e : b = g
        · subst e
          rw [hWg]
          exact ⟨hgq, hdw, hNg, by lia⟩
        · rw [hWn b e]
          exact si.sub b hb'
      · refine ⟨by rw [hk]; exact hb', ?_⟩
        by_cases e : b = g
        · subst e; rw [hWg]; lia
        · rw [hWn b e]; exact Nat.le_refl _
    · rw [decide_eq_false hb] at hlt
      exact ⟨ks, W, _, si, .refl _ _, ⟨hgk, by rw [← hnw]; lia⟩, seq1 hset (seq1 (if_f ((tor_f hnin).trans hlt) rfl) rfl)⟩
theorem enum_cons {d : D} {ds : List D} {k : Nat} {gs : List Nat} (h : d :: ds = enumD k (gs.map encN)) : ∃ g gs', gs = g :: gs' ∧ d = .tup [encN k, encN g] ∧ ds = enumD (k + 1) (gs'.map encN) := by
  cases gs with
  | nil => cases h
  | cons g gs => cases h; exact ⟨g, gs, rfl, rfl, rfl⟩
theorem mt_inner {s : Scene} (ok : OkS s) {q : List Nat} {V : Nat → List Nat} (fd : Found s q V) {ks : List Nat} {W : Nat → List Nat} (si : WInv s q V ks W) {p : Nat} (hp : p ∈ ks) (σ : Src) (J2 J4 J5 J6 : Cell) :
    ∃ ks' W' j4 j5 j6, WInv s q V ks' W' ∧ Le ks W ks' W' ∧ (∀ a g, (succs s p)[a]? = some g → At ks' W' g (8 * num (W p) + a + 1)) ∧
      forL (ttup [4, 5]) mtBody (enumD 0 ((succs s p).map encN)) [.frz (encScene s), .own (encF ks (wD W)), J2, .frz (encN p), J4, J5, J6] σ = some (.next, [.frz (encScene s), .own (encF ks' (wD W')), J2, .frz (encN p), j4, j5, j6], σ) := by
  refine gen ?_; intro GG kGG
  obtain ⟨ρ', e, at_, gs, ks', W', j4, j5, j6, e1, e2, e3, e4, e5, e6⟩ := forL_inv (tg := ttup [4, 5]) (body := mtBody) (σ := σ)
    (fun ds ρ => ∃ at_ gs ks' W' j4 j5 j6, ds = enumD at_ (gs.map encN) ∧ (succs s p).drop at_ = gs ∧ WInv s q V ks' W' ∧ Le ks W ks' W' ∧ (∀ a g, a < at_ → (succs s p)[a]? = some g → At ks' W' g (8 * num (W p) + a + 1)) ∧
      ρ = [.frz (encScene s), .own (encF ks' (wD W')), J2, .frz (encN p), j4, j5, j6])
    (fun d ds ρ hI => by
      obtain ⟨at_, gs, ks', W', j4, j5, j6, h1, h2, h3, h4, h5, h6⟩ := hI
      obtain ⟨g, gs, rfl, rfl, rfl⟩ := enum_cons h1
      subst h6
      have hg : (succs s p)[at_]? = some g := by
        have := congrArg (fun l => l[0]?) h2
        simpa [List.getElem?_drop] using this
      have hd' : (succs s p).drop (at_ + 1) = gs := by
        have := congrArg (fun l => l.drop 1) h2
        simpa [List.drop_drop] using this
      obtain ⟨hpk, hpn⟩ := h4 p hp
      obtain ⟨ks2, W2, j6', i1, i2, i3, i4⟩ := mt_step ok fd h3 hpk hg σ J2 j6
      refine ⟨[.frz (encScene s), .own (encF ks' (wD W')), J2, .frz (encN p), .frz (encN at_), .frz (encN g), j6], [.frz (encScene s), .own (encF ks2 (wD W2)), J2, .frz (encN p), .frz (encN at_), .frz (encN g), j6'], rfl, .inl i4, at_ + 1, gs, ks2, W2, .frz (encN at_), .frz (encN g), j6', rfl, hd', i1, h4.trans i2, fun a g' ha hg' => ?_, rfl⟩
      rcases Nat.lt_or_ge a at_ with c | c
      · exact (h5 a g' c hg').le i2 (Nat.le_refl _)
      · have : a = at_ := by lia
        subst this
        rw [hg] at hg'; cases hg'
        exact i3.le (.refl _ _) (by lia))
    ⟨0, succs s p, ks, W, J4, J5, J6, rfl, rfl, si, .refl _ _, fun a g h => absurd h (Nat.not_lt_zero _), rfl⟩
  have hgs : gs = [] := by
    cases gs with
    | nil => rfl
    | cons g gs => simp [enumD] at e1
  subst hgs
  refine kGG ?_; clear kGG
  refine ⟨ks', W', j4, j5, j6, e3, e4, fun a g hg => e5 a g ?_ hg, e6 ▸ e⟩
  have : a < (succs s p).length := by
    rcases Nat.lt_or_ge a (succs s p).length with c | c
    · exact c
    · rw [List.getElem?_eq_none c] at hg; cases hg
  have := List.drop_eq_nil_iff.mp e2
  lia
noncomputable def mtMid : SF := (sseq (sforE (ienum (xcall F_law_each (lcons (xsub (xsub (bname 0) (bname 3)) (xk (.int 2))) lnil))) (ttup [4, 5]) mtBody)
  snil)
theorem mt_mid {s : Scene} (ok : OkS s) {q : List Nat} {V : Nat → List Nat} (fd : Found s q V) {ks : List Nat} {W : Nat → List Nat} (si : WInv s q V ks W) (σ : Src) {K : List Nat} (hK : ∀ p ∈ K, p ∈ ks) (J2 J3 J4 J5 J6 : Cell) :
    ∃ ks' W' j3 j4 j5 j6, WInv s q V ks' W' ∧ Le ks W ks' W' ∧ (∀ p ∈ K, ∀ a g, (succs s p)[a]? = some g → At ks' W' g (8 * num (W p) + a + 1)) ∧
      forL (tname 3) mtMid (K.map encN) [.frz (encScene s), .own (encF ks (wD W)), J2, J3, J4, J5, J6] σ = some (.next, [.frz (encScene s), .own (encF ks' (wD W')), J2, j3, j4, j5, j6], σ) := by
  refine gen ?_; intro GG kGG
  obtain ⟨ρ', e, done, rest, ks', W', j3, j4, j5, j6, e1, e2, e3, e4, e5, e6⟩ := forL_inv (tg := tname 3) (body := mtMid) (σ := σ)
    (fun ds ρ => ∃ done rest ks' W' j3 j4 j5 j6, ds = rest.map encN ∧ K = done ++ rest ∧ WInv s q V ks' W' ∧ Le ks W ks' W' ∧ (∀ p ∈ done, ∀ a g, (succs s p)[a]? = some g → At ks' W' g (8 * num (W p) + a + 1)) ∧
      ρ = [.frz (encScene s), .own (encF ks' (wD W')), J2, j3, j4, j5, j6])
    (fun d ds ρ hI => by
      obtain ⟨done, rest, ks', W', j3, j4, j5, j6, h1, h2, h3, h4, h5, h6⟩ := hI
      obtain ⟨p, rest, rfl, rfl, rfl⟩ := cons_map h1
      subst h6
      have hpK : p ∈ K := by rw [h2]; simp
      obtain ⟨hpk, hpn⟩ := h4 p (hK p hpK)
      have hps : p < s.length := h3.good.lt p hpk
      obtain ⟨ks2, W2, j4', j5', j6', i1, i2, i3, i4⟩ := mt_inner ok fd h3 hpk σ J2 j4 j5 j6
      have hcall : xcall F_law_each (lcons (xsub (xsub (bname 0) (bname 3)) (xk (.int 2))) lnil) [.frz (encScene s), .own (encF ks' (wD W')), J2, .frz (encN p), j4, j5, j6] σ = some (encL (succs s p), σ) :=
        (xcall_eq (lcons_eq (goals_at ok rfl rfl hps) rfl)).trans (each_ok _ _ (by have := ok.few p; lia))
      refine ⟨[.frz (encScene s), .own (encF ks' (wD W')), J2, .frz (encN p), j4, j5, j6], _, rfl, .inl (seq1 (sforE_eq (ienum_eq hcall) i4) rfl), done ++ [p], rest, ks2, W2, .frz (encN p), j4', j5', j6', rfl, by rw [List.append_assoc]; exact h2, i1, h4.trans i2, fun p' hp' a g hg => ?_, rfl⟩
      rcases List.mem_append.mp hp' with hp' | hp'
      · exact (h5 p' hp' a g hg).le i2 (Nat.le_refl _)
      · simp at hp'; subst hp'
        exact (i3 a g hg).le (.refl _ _) (by lia))
    ⟨[], K, ks, W, J3, J4, J5, J6, rfl, rfl, si, .refl _ _, (fun p hp => nomatch hp), rfl⟩
  have : rest = [] := by simpa using e1.symm
  subst this
  have : done = K := by simpa using e2.symm
  subst this
  refine kGG ?_; clear kGG
  exact ⟨ks', W', j3, j4, j5, j6, e3, e4, e5, e6 ▸ e⟩
noncomputable def mtOut : SF := (sseq (sfor (ival (op1 sortKD (bname 1))) (tname 3) mtMid)
  snil)
theorem mt_out {s : Scene} (ok : OkS s) {q : List Nat} {V : Nat → List Nat} (fd : Found s q V) (σ : Src) :
    ∃ ks j2 j3 j4 j5 j6, ks.Perm q ∧ forL (tname 2) mtOut ((List.range' 0 s.length).map encN) [.frz (encScene s), .own (encF [0] (wD fun _ => [])), .un, .un, .un, .un, .un] σ = some (.next, [.frz (encScene s), .own (encF ks (wD V)), j2, j3, j4, j5, j6], σ) := by
  refine gen ?_; intro GG kGG
  have hn := ok.len
  obtain ⟨ρ', e, t, rest, ks, W, j2, j3, j4, j5, j6, e1, e2, e3, e4, e5⟩ := forL_inv (tg := tname 2) (body := mtOut) (σ := σ)
    (fun ds ρ => ∃ (t : Nat) (rest ks : List Nat) (W : Nat → List Nat) (j2 j3 j4 j5 j6 : Cell), ds = rest.map encN ∧ rest.length + t = s.length ∧ WInv s q V ks W ∧ (∀ g ∈ q, (V g).length ≤ t → At ks W g (num (V g))) ∧
      ρ = [.frz (encScene s), .own (encF ks (wD W)), j2, j3, j4, j5, j6])
    (fun d ds ρ hI => by
      obtain ⟨t, rest, ks, W, j2, j3, j4, j5, j6, h1, h2, h3, h4, h5⟩ := hI
      obtain ⟨x, rest, rfl, rfl, rfl⟩ := cons_map h1
      subst h5
      have hkl := h3.good.len
      obtain ⟨K, hp, hs⟩ := sortK_eq ks (wD W) (by lia)
      obtain ⟨ks2, W2, j3', j4', j5', j6', i1, i2, i3, i4⟩ := mt_mid ok fd h3 σ (K := K) (fun p h => hp.mem_iff.mp h) (.frz (encN x)) j3 j4 j5 j6
      refine ⟨[.frz (encScene s), .own (encF ks (wD W)), .frz (encN x), j3, j4, j5, j6], _, rfl, .inl (seq1 (sfor_eq (ival_list (op1_eq rfl hs)) i4) rfl), t + 1, rest, ks2, W2, .frz (encN x), j3', j4', j5', j6', rfl, by simp at h2; lia, i1, fun g hg hl => ?_, rfl⟩
      rcases Nat.lt_or_ge t (V g).length with c | c
      · have g0 : g ≠ 0 := by rintro rfl; rw [fd.v0] at c; simp at c
        obtain ⟨p, a, p1, p2, p3⟩ := fd.tree g hg g0
        have hpl : (V p).length ≤ t := by rw [p3] at hl; simp at hl; lia
        have hpa := h4 p p1 hpl
        refine (i3 p (hp.mem_iff.mpr hpa.1) a g p2).le (.refl _ _) ?_
        rw [p3, num_snoc]
        have := hpa.2
        lia
      · exact (h4 g hg c).le i2 (Nat.le_refl _))
    ⟨0, List.range' 0 s.length, [0], fun _ => [], .un, .un, .un, .un, .un, rfl, by simp, ⟨⟨by simp, fun x hx => by simp at hx; subst hx; exact ok.pos⟩, by simp, fun b hb => by
        simp at hb; subst hb
        exact ⟨fd.zero, (fun _ h => nomatch h), by rw [fd.v0]; exact Nat.le_refl _, by simp⟩⟩, fun g hg hl => by
        by_cases g0 : g = 0
        · subst g0; exact ⟨by simp, by simp [num]⟩
        · obtain ⟨p, a, p1, p2, p3⟩ := fd.tree g hg g0
          rw [p3] at hl
          simp at hl, rfl⟩
  have : rest = [] := by simpa using e1.symm
  subst this
  have hall : ∀ g ∈ q, At ks W g (num (V g)) := fun g hg => e4 g hg (by
    have h1 := fd.short _ g hg (Nat.le_refl _)
    have h2 := List.idxOf_lt_length_of_mem hg
    have h3 := fd.good.len
    simp at e2
    lia)
  have hperm : ks.Perm q := (List.perm_ext_iff_of_nodup e3.good.nd fd.good.nd).mpr fun g => ⟨fun h => (e3.sub g h).1, fun h => (hall g h).1⟩
  refine kGG ?_; clear kGG
  refine ⟨ks, j2, j3, j4, j5, j6, hperm, ?_⟩
  rw [e, e5]
  have : encF ks (wD W) = encF ks (wD V) := by
    unfold encF
    congr 1
    refine List.map_congr_left fun g hg => ?_
    obtain ⟨h1, h2, h3, _⟩ := e3.sub g hg
    unfold wD
    rw [num_eq h2 (fd.dig g) (Nat.le_antisymm (hall g h1).2 h3)]
  rw [this]
end Mine
end
section
open PySem PySem.W
set_option linter.unusedVariables false
namespace Mine
noncomputable def ltR (rl : List Nat) (i j : Nat) : Option Bool := match rl[i]?, rl[j]? with
  | some a, some b => some (decide (a < b))
  | _, _ => none
noncomputable def allL : Nat → Nat → List (List Nat)
  | _, 0 => [[]]
  | m, k + 1 => (List.range m).flatMap fun a => (allL m k).map fun l => a :: l
noncomputable def nodupN : List Nat → Bool
  | [] => true
  | x :: xs => !xs.contains x && nodupN xs
noncomputable def chkR (m : Nat) (rl : List Nat) : Bool := !nodupN rl || (match runK (ltR rl) (kas_sort m) with
  | some p => p.toList.map (fun i => rl.getD i 99) == List.range m && p.toList.all (fun i => decide (i < m))
  | none => false)
theorem chk2 : (allL 2 2).all (chkR 2) = true := by decide +kernel
theorem chk3 : (allL 3 3).all (chkR 3) = true := by decide +kernel
theorem chk4 : (allL 4 4).all (chkR 4) = true := by decide +kernel
theorem chk5 : (allL 5 5).all (chkR 5) = true := by decide +kernel
theorem mem_allL {m : Nat} : ∀ {l : List Nat}, (∀ x ∈ l, x < m) → l ∈ allL m l.length
  | [], _ => by simp [allL]
  | a :: l, h => by
    rw [List.length_cons, allL]
    refine List.mem_flatMap.mpr ⟨a, List.mem_range.mpr (h a (.head _)), List.mem_map.mpr ⟨l, mem_allL fun x hx => h x (.tail _ hx), rfl⟩⟩
theorem nodupN_of : ∀ {l : List Nat}, l.Nodup → nodupN l = true
  | [], _ => rfl
  | a :: l, h => by
    have := List.nodup_cons.mp h
    rw [nodupN, nodupN_of this.2]
    simp [this.1]
theorem chk_any {m : Nat} {rl : List Nat} (h2 : 2 ≤ m) (h5 : m ≤ 5) (hl : rl.length = m) (hlt : ∀ x ∈ rl, x < m) (hnd : rl.Nodup) :
    ∃ p, runK (ltR rl) (kas_sort m) = some p ∧ p.toList.map (fun i => rl.getD i 99) = List.range m ∧ ∀ i ∈ p.toList, i < m := by
  have hm : chkR m rl = true := by
    have := mem_allL hlt
    rw [hl] at this
    have hm4 : m = 2 ∨ m = 3 ∨ m = 4 ∨ m = 5 := by lia
    clear h2 h5 hl hlt hnd
    rcases hm4 with rfl | rfl | rfl | rfl
    · exact List.all_eq_true.mp chk2 _ this
    · exact List.all_eq_true.mp chk3 _ this
    · exact List.all_eq_true.mp chk4 _ this
    · exact List.all_eq_true.mp chk5 _ this
  unfold chkR at hm
  rw [nodupN_of hnd] at hm
  simp only [Bool.not_true, Bool.false_or] at hm
  split at hm
  · rename_i p hp
    obtain ⟨h1, h3⟩ := Bool.and_eq_true_iff.mp hm
    exact ⟨p, hp, eq_of_beq h1, fun i hi => by simpa using List.all_eq_true.mp h3 i hi⟩
  · cases hm
noncomputable def rowD (V : Nat → List Nat) (b : Nat) : D := .tup [.int ((V b).length : Int), encW (V b), encN b]
theorem okDs_row (V : Nat → List Nat) (b : Nat) : okDs 8 [.int ((V b).length : Int), encW (V b), encN b] = true := by
  show (okD 8 (.int ((V b).length : Int)) && (okDs 7 ((V b).map encN) && (okD 8 (encN b) && true))) = true
  rw [okDs_encN]
  rfl
theorem row_self (V : Nat → List Nat) (b : Nat) : ltDn 3 (rowD V b) (rowD V b) = some false := by
  unfold rowD
  rw [ltDn_tup, okDs_row]
  show ltDs (ltDn 2) [.int ((V b).length : Int), encW (V b), encN b] [.int ((V b).length : Int), encW (V b), encN b] false = _
  rw [ltDs_cons, if_pos (eqv_py _), ltDs_cons, if_pos (eqv_py _), ltDs_cons, if_pos (eqv_py _)]
  rfl
theorem row_ne (V : Nat → List Nat) (b c : Nat) (h : V b ≠ V c) : ltDn 3 (rowD V b) (rowD V c) = some (sltB (V b) (V c)) := by
  unfold rowD
  rw [ltDn_tup, okDs_row, okDs_row]
  show ltDs (ltDn 2) [.int ((V b).length : Int), encW (V b), encN b] [.int ((V c).length : Int), encW (V c), encN c] false = _
  exact ltDs_way 1 _ _ _ _ h
theorem Found.lt_iff {s : Scene} {q : List Nat} {V : Nat → List Nat} (f : Found s q V) {x y : Nat} (hx : x ∈ q) (hy : y ∈ q) : num (V x) < num (V y) ↔ q.idxOf x < q.idxOf y := by
  constructor
  · exact f.lt hx hy
  · intro h
    have hxl := List.idxOf_lt_length_of_mem hx
    have hyl := List.idxOf_lt_length_of_mem hy
    have := List.pairwise_iff_getElem.mp f.asc _ _ hxl hyl h
    rw [List.getElem_idxOf, List.getElem_idxOf] at this
    exact this
theorem row_key {s : Scene} {q : List Nat} {V : Nat → List Nat} (f : Found s q V) {b c : Nat} (hb : b ∈ q) (hc : c ∈ q) : ltDn 3 (rowD V b) (rowD V c) = some (decide (q.idxOf b < q.idxOf c)) := by
  by_cases e : b = c
  · subst e; rw [row_self]; simp
  · have hne : V b ≠ V c := by
      intro h
      have h1 := f.lt_iff hb hc
      have h2 := f.lt_iff hc hb
      rw [h] at h1 h2
      have hbl := List.idxOf_lt_length_of_mem hb
      have hcl := List.idxOf_lt_length_of_mem hc
      have e1 : q.idxOf b = q.idxOf c := by
        have := Nat.lt_irrefl (num (V c))
        have n1 := fun z => this (h1.mpr z)
        have n2 := fun z => this (h2.mpr z)
        lia
      have e2 : q[q.idxOf b]'hbl = q[q.idxOf c]'hcl := by congr 1
      rw [List.getElem_idxOf, List.getElem_idxOf] at e2
      exact e e2
    rw [row_ne V b c hne, sltB_num (f.dig b) (f.dig c)]
    congr 1
    rw [decide_eq_decide]
    exact f.lt_iff hb hc
theorem sort_rows {s : Scene} {q ks : List Nat} {V : Nat → List Nat} (f : Found s q V) (hp : ks.Perm q) (h5 : q.length ≤ 5) : sortTD (.list (ks.map (rowD V))) = some (.list (q.map (rowD V))) := by
  have hlen := hp.length_eq
  unfold sortTD
  dsimp only
  rw [List.length_map]
  by_cases h2 : ks.length < 2
  · rw [if_pos h2]
    have : ks = q := by
      match q, hlen, hp with
      | [], _, hp => exact hp.eq_nil
      | [x], _, hp => exact List.perm_singleton.mp hp
      | _ :: _ :: _, hl, _ => simp at hl; lia
    rw [this]
  · rw [if_neg h2, if_pos ⟨by lia, by rw [List.all_map]; exact List.all_eq_true.mpr fun _ _ => rfl⟩]
    have hmem : ∀ x ∈ ks, x ∈ q := fun x hx => hp.mem_iff.mp hx
    have hnd : ks.Nodup := hp.nodup_iff.mpr f.good.nd
    obtain ⟨p, hp1, hp2, hp3⟩ := chk_any (m := ks.length) (rl := ks.map (q.idxOf ·)) (by lia) (by lia) (by simp) (fun x hx => by
        obtain ⟨y, hy, rfl⟩ := List.mem_map.mp hx
        have := List.idxOf_lt_length_of_mem (hmem y hy)
        lia) (by
        rw [List.nodup_iff_pairwise_ne, List.pairwise_map]
        refine (List.nodup_iff_pairwise_ne.mp hnd).imp_of_mem fun {a b} ha hb hab e => hab ?_
        have hal := List.idxOf_lt_length_of_mem (hmem a ha)
        have hbl := List.idxOf_lt_length_of_mem (hmem b hb)
        have e2 : q[q.idxOf a]'hal = q[q.idxOf b]'hbl := by congr 1
        rw [List.getElem_idxOf, List.getElem_idxOf] at e2
        exact e2)
    have hkey : keyD (ks.map (rowD V)) = ltR (ks.map (q.idxOf ·)) := by
      funext i j
      unfold keyD ltR
      rw [List.getElem?_map, List.getElem?_map, List.getElem?_map, List.getElem?_map]
      cases hi : ks[i]? with
      | none => rfl
      | some b =>
        cases hj : ks[j]? with
        | none => rfl
        | some c => exact row_key f (hmem b (List.mem_of_getElem? hi)) (hmem c (List.mem_of_getElem? hj))
    rw [hkey, hp1]
    dsimp only
    congr 2
    have e1 : p.toList.map (fun i => (ks.map (rowD V)).getD i .none) = (p.toList.map (fun i => (ks.map (q.idxOf ·)).getD i 99)).map fun k => (q.map (rowD V)).getD k .none := by
      rw [List.map_map]
      refine List.map_congr_left fun i hi => ?_
      have hil := hp3 i hi
      have hl2 := List.idxOf_lt_length_of_mem (hmem ks[i] (List.getElem_mem hil))
      show (ks.map (rowD V)).getD i .none = (q.map (rowD V)).getD ((ks.map (q.idxOf ·)).getD i 99) .none
      have g1 : (ks.map (q.idxOf ·)).getD i 99 = q.idxOf ks[i] := by
        rw [List.getD_eq_getElem?_getD, List.getElem?_map, List.getElem?_eq_getElem hil]; rfl
      rw [g1, List.getD_eq_getElem?_getD, List.getD_eq_getElem?_getD, List.getElem?_map, List.getElem?_map, List.getElem?_eq_getElem hil, List.getElem?_eq_getElem hl2, List.getElem_idxOf]
    rw [e1, hp2]
    refine List.ext_getElem (by simp [hlen]) fun n h1 h2 => ?_
    rw [List.getElem_map, List.getElem_range, List.getD_eq_getElem?_getD, List.getElem?_eq_getElem h2]
    rfl
theorem met_ok {s : Scene} (ok : OkS s) {q : List Nat} {V : Nat → List Nat} (fd : Found s q V) (σ : Src) : F_law_met [encScene s] σ = some (encL q, σ) := by
  refine gen ?_; intro GG kGG
  have hn := ok.len
  have hql := fd.good.len
  obtain ⟨ks, j2, j3, j4, j5, j6, hp, e⟩ := mt_out ok fd σ
  have hkl := hp.length_eq
  have hlenW : ∀ b ∈ ks, lenD (encW (V b)) = some (.int ((V b).length : Int)) := fun b hb => by
    have hbq := hp.mem_iff.mp hb
    have h1 := fd.short _ b hbq (Nat.le_refl _)
    have h2 := List.idxOf_lt_length_of_mem hbq
    show (if ((V b).map encN).length ≤ 1000 then some (D.int (((V b).map encN).length : Int)) else none) = _
    rw [List.length_map, if_pos (by lia)]
  have hc1 : xcomp [1] (ikeys (bname 1)) cbname tt (xtup (lcons (op1 lenD (xsub (bname 0) (bname 1))) (lcons (xsub (bname 0) (bname 1)) (lcons (xname 1) lnil)))) [.frz (encScene s), .own (encF ks (wD V)), j2, j3, j4, j5, j6] σ = some (.list (ks.map (rowD V)), σ) := by
    refine xcomp_eq (σ1 := σ) (ds := ks.map encN) ?_ (by rw [List.length_map]; lia) rfl ?_
    · show some ((castL ks).map D.int, σ) = _
      unfold castL
      rw [List.map_map]
      rfl
    · show compL cbname tt _ [.own (encF ks (wD V))] _ σ = _
      rw [compL_gen encN (fun b => [encN b]) (fun _ => true) (rowD V) ks (fun _ _ => rfl) (fun _ _ => rfl) (fun b hb _ => by
        have hg : xsub (bname 0) (bname 1) ([Cell.own (encF ks (wD V))] ++ [encN b].map .frz) σ = some (encW (V b), σ) := xsub_eq rfl rfl (subS_encF hb)
        exact xtup_eq (lcons_eq (op1_eq hg (hlenW b hb)) (lcons_eq hg (lcons_eq rfl rfl))) (by simp)), List.filter_eq_self.mpr (fun _ _ => rfl)]
  have hc2 : xcomp [] (ival (op1 sortTD (xcomp [1] (ikeys (bname 1)) cbname tt (xtup (lcons (op1 lenD (xsub (bname 0) (bname 1))) (lcons (xsub (bname 0) (bname 1)) (lcons (xname 1) lnil))))))) cbname tt (xsub (bname 0) (xk (.int 2))) [.frz (encScene s), .own (encF ks (wD V)), j2, j3, j4, j5, j6] σ = some (encL q, σ) := by
    refine xcomp_eq (ds := q.map (rowD V)) (ival_list (op1_eq hc1 (sort_rows fd hp (by lia)))) (by rw [List.length_map]; lia) rfl ?_
    show compL cbname tt _ [] _ σ = _
    rw [compL_gen (rowD V) (fun b => [rowD V b]) (fun _ => true) encN q (fun _ _ => rfl) (fun _ _ => rfl) (fun b hb _ => xsub_eq rfl rfl rfl), List.filter_eq_self.mpr (fun _ _ => rfl)]
  refine kGG ?_; clear kGG
  exact fdef_eq rfl (show f_law_met _ _ = _ from by
    unfold f_law_met
    exact seq1 rfl (seq1 (sfor_eq (irange_eq (len_scene ok rfl) (by lia)) e) (sseq_ret (sret_eq hc2))))
end Mine
end
section
open PySem PySem.W
set_option linter.unusedVariables false
namespace Mine
/-! ## past empty gotos: the mathematics -/
abbrev Hop := Nat → Option Nat
noncomputable def stepH (h : Hop) (x : Nat) : Nat := (h x).getD x
noncomputable def it (h : Hop) : Nat → Nat → Nat
  | 0, x => x
  | k + 1, x => stepH h (it h k x)
theorem it_succ (h : Hop) : ∀ (k x : Nat), it h (k + 1) x = it h k (stepH h x)
  | 0, x => rfl
  | k + 1, x => by
    show stepH h (it h (k + 1) x) = stepH h (it h k (stepH h x))
    rw [it_succ h k x]
theorem it_add (h : Hop) : ∀ (a b x : Nat), it h (a + b) x = it h a (it h b x)
  | 0, b, x => by rw [Nat.zero_add]; rfl
  | a + 1, b, x => by
    rw [Nat.add_right_comm]
    show stepH h (it h (a + b) x) = stepH h (it h a (it h b x))
    rw [it_add h a b x]
noncomputable def gon (h : Hop) : Nat → List Nat → Nat → Nat
  | 0, _, x => x
  | f + 1, met, x => match h x with
    | some g => if met.contains x then x else gon h f (met ++ [x]) g
    | none => x
theorem gon_succ {h : Hop} {f : Nat} {met : List Nat} {x : Nat} : gon h (f + 1) met x = match h x with
    | some g => if met.contains x then x else gon h f (met ++ [x]) g
    | none => x := rfl
noncomputable def wayG (h : Hop) : Nat → Nat → List Nat
  | 0, x => [x]
  | k + 1, x => x :: wayG h k (stepH h x)
theorem wayG_zero {h : Hop} {x : Nat} : wayG h 0 x = [x] := rfl
theorem wayG_succ {h : Hop} {k x : Nat} : wayG h (k + 1) x = x :: wayG h k (stepH h x) := rfl
theorem wayG_len (h : Hop) : ∀ k x, (wayG h k x).length = k + 1
  | 0, _ => rfl
  | k + 1, x => by rw [wayG_succ, List.length_cons, wayG_len h k]
theorem mem_wayG (h : Hop) {y : Nat} : ∀ {k x : Nat}, y ∈ wayG h k x ↔ ∃ i, i ≤ k ∧ it h i x = y
  | 0, x => by
    rw [wayG_zero, List.mem_singleton]
    constructor
    · rintro rfl; exact ⟨0, Nat.le_refl _, rfl⟩
    · rintro ⟨i, h1, h2⟩
      have : i = 0 := by lia
      subst this; exact h2.symm
  | k + 1, x => by
    rw [wayG_succ, List.mem_cons, mem_wayG h]
    constructor
    · rintro (rfl | ⟨i, h1, h2⟩)
      · exact ⟨0, Nat.zero_le _, rfl⟩
      · exact ⟨i + 1, by lia, by rw [it_succ]; exact h2⟩
    · rintro ⟨i, h1, h2⟩
      match i, h1, h2 with
      | 0, _, h2 => exact .inl h2.symm
      | i + 1, h1, h2 => exact .inr ⟨i, by lia, by rw [← it_succ]; exact h2⟩
theorem wayG_drop (h : Hop) : ∀ (a b x : Nat), (wayG h (a + b) x).drop a = wayG h b (it h a x)
  | 0, b, x => by rw [Nat.zero_add]; rfl
  | a + 1, b, x => by
    rw [Nat.add_right_comm, wayG_succ, List.drop_succ_cons, wayG_drop h a b, it_succ]
/-- where the orbit turns back -/
structure Rho (h : Hop) (n x j c : Nat) : Prop where
  jc : j < c
  cn : c ≤ n
  back : it h c x = it h j x
  nd : ∀ a b, a < c → b < c → it h a x = it h b x → a = b
theorem Rho.far {h : Hop} {n x j c : Nat} (r : Rho h n x j c) : ∀ m, ∃ i, j ≤ i ∧ i < c ∧ it h (j + m) x = it h i x
  | 0 => ⟨j, Nat.le_refl _, r.jc, rfl⟩
  | m + 1 => by
    obtain ⟨i, h1, h2, h3⟩ := r.far m
    have e : it h (j + (m + 1)) x = it h (i + 1) x := by
      show stepH h (it h (j + m) x) = stepH h (it h i x)
      rw [h3]
    by_cases c' : i + 1 < c
    · exact ⟨i + 1, by lia, c', e⟩
    · have : i + 1 = c := by lia
      exact ⟨j, Nat.le_refl _, r.jc, by rw [e, this, r.back]⟩
theorem Rho.per {h : Hop} {n x j c : Nat} (r : Rho h n x j c) {i : Nat} (hi : j ≤ i) : it h (i + (c - j)) x = it h i x := by
  have := r.jc
  have e1 : i + (c - j) = (i - j) + c := by lia
  have e2 : (i - j) + j = i := by lia
  rw [e1, it_add, r.back, ← it_add, e2]
theorem Rho.hit {h : Hop} {n x j c : Nat} (r : Rho h n x j c) {i : Nat} (hi : j ≤ i) : ∀ m, ∃ t, i + m ≤ t ∧ t < i + m + (c - j) ∧ it h t x = it h i x
  | 0 => ⟨i, Nat.le_refl _, by have := r.jc; lia, rfl⟩
  | m + 1 => by
    obtain ⟨t, h1, h2, h3⟩ := r.hit hi m
    by_cases c' : i + (m + 1) ≤ t
    · exact ⟨t, c', by lia, h3⟩
    · have e : t = i + m := by lia
      refine ⟨t + (c - j), by have := r.jc; lia, by lia, ?_⟩
      rw [r.per (by omega), h3]
theorem Rho.first {h : Hop} {n x j c : Nat} (r : Rho h n x j c) : ∀ (k i : Nat), i + k = 2 * n → i ≤ j →
    ((wayG h k (it h i x)).filter fun y => (wayG h n (it h n x)).contains y).head? = some (it h j x)
  | k, i, hk, hi => by
    have hjc := r.jc
    have hcn := r.cn
    have hin : ∀ i', i' < c → ((wayG h n (it h n x)).contains (it h i' x) = true ↔ j ≤ i') := by
      intro i' hi'
      rw [List.contains_iff_mem, mem_wayG]
      constructor
      · rintro ⟨t, h1, h2⟩
        rw [← it_add] at h2
        obtain ⟨i2, g1, g2, g3⟩ := r.far (t + n - j)
        have : j + (t + n - j) = t + n := by lia
        rw [this, h2] at g3
        have := r.nd _ _ hi' g2 g3
        lia
      · intro hji
        have r' : ∃ t, n ≤ t ∧ t ≤ 2 * n ∧ it h t x = it h i' x := by
          obtain ⟨t, h1, h2, h3⟩ := r.hit hji (n - i')
          exact ⟨t, by lia, by lia, h3⟩
        obtain ⟨t, h1, h2, h3⟩ := r'
        exact ⟨t - n, by omega, by rw [← it_add]; have : t - n + n = t := by omega
                                   rw [this]; exact h3⟩
    by_cases e : i = j
    · subst e
      have hc := (hin i hjc).mpr (Nat.le_refl _)
      cases k with
      | zero => rw [wayG_zero, List.filter_cons, hc]; rfl
      | succ k => rw [wayG_succ, List.filter_cons, hc]; rfl
    · have hc : (wayG h n (it h n x)).contains (it h i x) = false := by
        cases q : (wayG h n (it h n x)).contains (it h i x) with
        | false => rfl
        | true => have := (hin i (by lia)).mp q; lia
      obtain ⟨k', rfl⟩ : ∃ k', k = k' + 1 := ⟨k - 1, by lia⟩
      rw [wayG_succ, List.filter_cons, hc]
      exact r.first k' (i + 1) (by lia) (by lia)
noncomputable def orb (h : Hop) (k x : Nat) : List Nat := (List.range k).map fun i => it h i x
theorem orb_succ (h : Hop) (k x : Nat) : orb h (k + 1) x = orb h k x ++ [it h k x] := by unfold orb; rw [List.range_succ, List.map_append]; rfl
theorem orb_nd {h : Hop} {k x : Nat} (hn : (orb h k x).Nodup) : ∀ a b, a < k → b < k → it h a x = it h b x → a = b := by
  intro a b ha hb e
  have ha' : a < (orb h k x).length := by simp [orb, ha]
  have hb' : b < (orb h k x).length := by simp [orb, hb]
  have := List.getElem_inj (h₀ := ha') (h₁ := hb') hn |>.mp (by simp [orb, e])
  exact this
theorem gon_rho {h : Hop} {n x : Nat} (hlt : ∀ i, it h i x < n) : ∀ (f k : Nat), f + k = n → (orb h k x).Nodup → (∀ i, i < k → (h (it h i x)).isSome = true) →
    ∃ j c, Rho h n x j c ∧ gon h f (orb h k x) (it h k x) = it h j x
  | 0, k, hk, hn, hs => by
    have hk' : k = n := by lia
    subst hk'
    have : it h k x ∈ orb h k x := by
      refine Classical.byContradiction fun c => ?_
      have g : GoodQ k (orb h k x ++ [it h k x]) := ⟨by
        rw [List.nodup_append]
        refine ⟨hn, by simp, fun a ha b hb e => c ?_⟩
        simp at hb; subst hb; subst e; exact ha, fun y hy => by
        rcases List.mem_append.mp hy with hy | hy
        · obtain ⟨i, _, rfl⟩ := List.mem_map.mp hy; exact hlt i
        · simp at hy; subst hy; exact hlt k⟩
      have := g.len
      simp [orb] at this
      lia
    obtain ⟨j, hj, e⟩ := List.mem_map.mp this
    exact ⟨j, k, ⟨List.mem_range.mp hj, Nat.le_refl _, e.symm, orb_nd hn⟩, e.symm⟩
  | f + 1, k, hk, hn, hs => by
    rw [gon_succ]
    cases hx : h (it h k x) with
    | none =>
      refine ⟨k, k + 1, ⟨by lia, by lia, ?_, ?_⟩, rfl⟩
      · show stepH h (it h k x) = _
        unfold stepH; rw [hx]; rfl
      · have key : ∀ a, a < k → it h a x ≠ it h k x := fun a ha e => by
          have := hs a ha
          rw [e, hx] at this
          cases this
        intro a b ha hb e
        by_cases c1 : a = k <;> by_cases c2 : b = k
        · lia
        · subst c1; exact absurd e.symm (key b (by lia))
        · subst c2; exact absurd e (key a (by lia))
        · exact orb_nd hn a b (by lia) (by lia) e
    | some g =>
      dsimp only
      cases hc : (orb h k x).contains (it h k x) with
      | true =>
        obtain ⟨j, hj, e⟩ := List.mem_map.mp (List.contains_iff_mem.mp hc)
        exact ⟨j, k, ⟨List.mem_range.mp hj, by lia, e.symm, orb_nd hn⟩, e.symm⟩
      | false =>
        have hnew : it h k x ∉ orb h k x := fun q => by have := List.contains_iff_mem.mpr q; rw [hc] at this; cases this
        have hg : it h (k + 1) x = g := by show stepH h (it h k x) = _; unfold stepH; rw [hx]; rfl
        obtain ⟨j, c, r, e⟩ := gon_rho hlt f (k + 1) (by lia) (by
          rw [orb_succ, List.nodup_append]
          refine ⟨hn, by simp, fun a ha b hb e => hnew ?_⟩
          simp at hb; subst hb; subst e; exact ha) (fun i hi => by
          by_cases c : i = k
          · subst c; rw [hx]; rfl
          · exact hs i (by lia))
        rw [orb_succ, hg] at e
        exact ⟨j, c, r, by rw [if_neg (by simp)]; exact e⟩
theorem gon_beh {h : Hop} {n x : Nat} (hlt : ∀ i, it h i x < n) : ((wayG h (2 * n) x).filter fun y => ((wayG h (2 * n) x).drop n).contains y).head? = some (gon h n [] x) := by
  obtain ⟨j, c, r, e⟩ := gon_rho hlt n 0 rfl (by simp [orb]) (fun i hi => absurd hi (Nat.not_lt_zero _))
  have h1 := r.first (2 * n) 0 (by lia) (Nat.zero_le _)
  have h2 : (wayG h (2 * n) x).drop n = wayG h n (it h n x) := by
    have := wayG_drop h n n x
    rw [← this]
    congr 2
    lia
  rw [h2]
  have e' : gon h n [] x = it h j x := e
  rw [e']
  exact h1
end Mine
end
section
open PySem PySem.W
set_option linter.unusedVariables false
namespace Mine
theorem ar_pred {k a n : Nat} (h : k + a = n) (h2 : a + (0 + 1) ≤ n) : k = k - 1 + 1 := by lia
noncomputable def hop (s : Scene) (x : Nat) : Option Nat := if ln s x = 0 then (match tm s x with
  | .goto g => some g
  | _ => none) else none
theorem hop_some {s : Scene} {x g : Nat} : hop s x = some g ↔ ln s x = 0 ∧ tm s x = .goto g := by
  unfold hop
  by_cases h : ln s x = 0
  · rw [if_pos h]
    cases ht : tm s x <;> simp [h]
  · rw [if_neg h]; simp [h]
theorem hop_lt {s : Scene} (ok : OkS s) {x g : Nat} (h : hop s x = some g) : g < s.length := by
  obtain ⟨_, h2⟩ := hop_some.mp h
  exact ok.lt x g (by rw [h2]; simp [glG, glS, glC, glD, glA, glR, glP, glU])
theorem stepH_lt {s : Scene} (ok : OkS s) {x : Nat} (hx : x < s.length) : stepH (hop s) x < s.length := by
  unfold stepH
  cases h : hop s x with
  | none => exact hx
  | some g => exact hop_lt ok h
theorem it_lt {s : Scene} (ok : OkS s) {x : Nat} (hx : x < s.length) : ∀ i, it (hop s) i x < s.length
  | 0 => hx
  | i + 1 => stepH_lt ok (it_lt ok hx i)
noncomputable def gonS (s : Scene) (x : Nat) : Nat := gon (hop s) s.length [] x
theorem eq_lines (k : Nat) (h : k ≤ 2) : eqD (encLines k) (.list []) = some (.bool (k == 0)) := by
  match k, h with
  | 0, _ => rfl
  | 1, _ => rfl
  | 2, _ => rfl
noncomputable def goTest : TX := tand (t2 eqD (xsub (xsub (xattr 3 (xname 0)) (bname 1)) (xk (.int 0))) (xlist lnil)) (tand (t2 eqD (xsub (xsub (xsub (xattr 3 (xname 0)) (bname 1)) (xk (.int 1))) (xk (.int 0))) (xk (.str "goto"))) (t2 ninD (bname 1) (bname 2)))
noncomputable def goBody : SF := (sseq (sput 2 (xname 1) (xk (.bool true)))
  (sseq (sset 1 (cfrz (xsub (xsub (xsub (xattr 3 (xname 0)) (bname 1)) (xk (.int 1))) (xk (.int 1)))))
  snil))
theorem hop_is {s : Scene} (x : Nat) : (ln s x == 0 && isGoto (tm s x)) = (hop s x).isSome := by
  unfold hop
  by_cases h : ln s x = 0
  · rw [if_pos h, h]
    cases tm s x <;> rfl
  · rw [if_neg h]
    simp [h]
theorem goes_ok {s : Scene} (ok : OkS s) {x : Nat} (hx : x < s.length) (σ : Src) : Fgoes_on [encBody s, encN x] σ = some (encN (gonS s x), σ) := by
  refine gen ?_; intro GG kGG
  have hn := ok.len
  obtain ⟨ρ', e, met, e1⟩ := whileL_inv (t := goTest) (b := goBody) (σ := σ)
    (fun k ρ => ∃ met y, ρ = [.frz (encBody s), .frz (encN y), .own (encM met)] ∧ k + met.length = s.length ∧ GoodQ s.length met ∧ y < s.length ∧ gon (hop s) k met y = gonS s x)
    (fun ρ => ∃ met, ρ = [.frz (encBody s), .frz (encN (gonS s x)), .own (encM met)])
    (fun k ρ hI => by
      obtain ⟨met, y, h1, h2, h3, h4, h5⟩ := hI
      subst h1
      have hl := h3.len
      have hb := blk_eq ok (ρ := [.frz (encBody s), .frz (encN y), .own (encM met)]) (f := bname 1) (σ := σ) rfl rfl h4
      have ht1 : t2 eqD (xsub (xsub (xattr 3 (xname 0)) (bname 1)) (xk (.int 0))) (xlist lnil) [.frz (encBody s), .frz (encN y), .own (encM met)] σ = some (ln s y == 0, σ) :=
        t2_eq (xsub_eq hb rfl rfl) rfl (eq_lines _ (ok.lns y))
      have ht2 : t2 eqD (xsub (xsub (xsub (xattr 3 (xname 0)) (bname 1)) (xk (.int 1))) (xk (.int 0))) (xk (.str "goto")) [.frz (encBody s), .frz (encN y), .own (encM met)] σ = some (isGoto (tm s y), σ) :=
        t2_eq (xsub_eq (xsub_eq hb rfl rfl) rfl (word0 σ _)) rfl (eq_goto _)
      have ht3 : t2 ninD (bname 1) (bname 2) [.frz (encBody s), .frz (encN y), .own (encM met)] σ = some (!met.contains y, σ) := t2_eq rfl rfl (ninD_encM met y)
      have ht := tand_bb ht1 (tand_bb ht2 ht3)
      have hv : (ln s y == 0 && (isGoto (tm s y) && !met.contains y)) = ((hop s y).isSome && !met.contains y) := by rw [← Bool.and_assoc, hop_is]
      rw [hv] at ht
      cases hh : hop s y with
      | none =>
        left
        rw [hh] at ht
        refine ⟨ht, met, ?_⟩
        have : gon (hop s) k met y = y := by
          cases k with
          | zero => rfl
          | succ k => rw [gon_succ, hh]
        rw [← h5, this]
      | some g =>
        rw [hh] at ht
        cases hc : met.contains y with
        | true =>
          left
          rw [hc] at ht
          refine ⟨ht, met, ?_⟩
          have : gon (hop s) k met y = y := by
            cases k with
            | zero => rfl
            | succ k => rw [gon_succ, hh]; dsimp only; rw [hc]; rfl
          rw [← h5, this]
        | false =>
          right
          rw [hc] at ht
          have gm : GoodQ s.length (met ++ [y]) := by
            have := h3.go (gs := [y]) (fun z hz => by simp at hz; subst hz; exact h4)
            rw [eachGo_some, hc] at this
            exact this
          have hl2 := gm.len
          simp only [List.length_append, List.length_cons, List.length_nil] at hl2
          obtain ⟨k', rfl⟩ : ∃ k', k = k' + 1 := ⟨k - 1, ar_pred h2 hl2⟩
          obtain ⟨_, hgo⟩ := hop_some.mp hh
          refine ⟨ht, [.frz (encBody s), .frz (encN g), .own (encM (met ++ [y]))], .inr ⟨.inl ?_, k', by lia, met ++ [y], g, rfl, by simp; lia, gm, hop_lt ok hh, ?_⟩⟩
          · refine seq1 (sput_encM (q := met) (g := y) rfl rfl (by lia) hc) (seq1 (sset_eq (cfrz_eq (xsub_eq (term_eq ok (x := y) rfl rfl h4) rfl (show subS σ (encT (tm s y)) (.int 1) = some (encN g) by rw [hgo]; rfl)))) rfl)
          · rw [← h5, gon_succ, hh]
            dsimp only
            rw [hc]
            rfl)
    64 s.length [.frz (encBody s), .frz (encN x), .own (encM [])] (by lia) ⟨[], x, rfl, by simp, ⟨by simp, fun x h => nomatch h⟩, hx, rfl⟩
  subst e1
  refine kGG ?_; clear kGG
  exact fdef_eq rfl (show fgoes_on _ _ = _ from by unfold fgoes_on; exact seq1 rfl (seq1 e rfl))
/-! ## _law_behind -/
theorem slL_drop (n : Nat) (ds : List D) (h : n ≤ ds.length) : slL (some (n : Int)) none ds = ds.drop n := by
  have hb : sliceBounds (some (n : Int)) none none ds.length = ((n : Int), (ds.length : Int), 1) := by
    unfold sliceBounds
    simp
    lia
  unfold slL
  rw [hb]
  show (sliceRange (n : Int) (ds.length : Int) 1).filterMap _ = _
  have hr : sliceRange (n : Int) (ds.length : Int) 1 = (List.range (ds.length - n)).map fun k => n + k := by
    unfold sliceRange
    rw [if_pos (by lia)]
    have e : (if (n : Int) < (ds.length : Int) then ((ds.length : Int) - (n : Int) + 1 - 1) / 1 else 0).toNat = ds.length - n := by
      split
      · rw [Int.ediv_one]; lia
      · lia
    dsimp only
    rw [e]
    refine List.map_congr_left fun k _ => ?_
    lia
  rw [hr, List.filterMap_map]
  have hf : ∀ (l : List D), (List.range l.length).filterMap (fun k => l[k]?) = l := by
    intro l
    have : (List.range l.length).filterMap (fun k => l[k]?) = ((List.range l.length).map fun k => l[k]?).filterMap id := by rw [List.filterMap_map]; rfl
    rw [this]
    have e2 : ((List.range l.length).map fun k => l[k]?) = l.map some := by
      refine List.ext_getElem (by simp) fun i h1 h2 => ?_
      simp at h1
      simp [h1]
    rw [e2, List.filterMap_map]
    simp
  have := hf (ds.drop n)
  rw [List.length_drop] at this
  rw [← this]
  congr 1
  funext k
  show ds[n + k]? = _
  rw [List.getElem?_drop]
noncomputable def lbBody : SF := (sseq (sunp [5, 6, 7] (xsub (bname 0) (xsub (bname 2) (op1 negD (xk (.int 1))))))
  (sseq (sappend 2 (xif (tand (t2 eqD (bname 5) (xlist lnil)) (t2 eqD (bname 6) (xk (.str "goto")))) (xsub (bname 7) (xk (.int 0))) (xsub (bname 2) (op1 negD (xk (.int 1))))))
  snil))
theorem lb_loop {s : Scene} (ok : OkS s) (σ : Src) (B J4 : Cell) : ∀ (ts pre : List Nat) (y : Nat) (j3 j5 j6 j7 : Cell), y < s.length → ts.length + pre.length ≤ 100 →
    ∃ j3' j5' j6' j7', forL (tname 3) lbBody (ts.map encN) [.frz (encScene s), B, .own (encL (pre ++ [y])), j3, J4, j5, j6, j7] σ =
      some (.next, [.frz (encScene s), B, .own (encL (pre ++ wayG (hop s) ts.length y)), j3', J4, j5', j6', j7'], σ)
  | [], pre, y, j3, j5, j6, j7, hy, hl => ⟨j3, j5, j6, j7, rfl⟩
  | t :: ts, pre, y, j3, j5, j6, j7, hy, hl => by
    refine gen ?_; intro GG kGG
    simp only [List.length_cons] at hl
    obtain ⟨j3', j5', j6', j7', e⟩ := lb_loop ok σ B J4 ts (pre ++ [y]) (stepH (hop s) y) (.frz (encN t)) (.frz (encLines (ln s y))) (.frz (.str (tm s y).word)) (.frz (encG (tm s y).goals)) (stepH_lt ok hy) (by simp; lia)
    refine kGG ?_; clear kGG
    refine ⟨j3', j5', j6', j7', ?_⟩
    have hlast : ∀ (j3 j5 j6 j7 : Cell), xsub (bname 2) (op1 negD (xk (.int 1))) [.frz (encScene s), B, .own (encL (pre ++ [y])), j3, J4, j5, j6, j7] σ = some (encN y, σ) := fun j3 j5 j6 j7 =>
      xsub_eq rfl rfl (idx_lastN pre y (by lia))
    have hunp : sunp [5, 6, 7] (xsub (bname 0) (xsub (bname 2) (op1 negD (xk (.int 1))))) [.frz (encScene s), B, .own (encL (pre ++ [y])), .frz (encN t), J4, j5, j6, j7] σ =
        some (.next, [.frz (encScene s), B, .own (encL (pre ++ [y])), .frz (encN t), J4, .frz (encLines (ln s y)), .frz (.str (tm s y).word), .frz (encG (tm s y).goals)], σ) :=
      sunp_eq (scene_at ok rfl (hlast _ _ _ _) hy) rfl
    have ht1 : t2 eqD (bname 5) (xlist lnil) [.frz (encScene s), B, .own (encL (pre ++ [y])), .frz (encN t), J4, .frz (encLines (ln s y)), .frz (.str (tm s y).word), .frz (encG (tm s y).goals)] σ = some (ln s y == 0, σ) := t2_eq rfl rfl (eq_lines _ (ok.lns y))
    have ht2 : t2 eqD (bname 6) (xk (.str "goto")) [.frz (encScene s), B, .own (encL (pre ++ [y])), .frz (encN t), J4, .frz (encLines (ln s y)), .frz (.str (tm s y).word), .frz (encG (tm s y).goals)] σ = some (isGoto (tm s y), σ) := t2_eq rfl rfl (eq_goto _)
    have ht := tand_bb ht1 ht2
    rw [hop_is] at ht
    have hval : xif (tand (t2 eqD (bname 5) (xlist lnil)) (t2 eqD (bname 6) (xk (.str "goto")))) (xsub (bname 7) (xk (.int 0))) (xsub (bname 2) (op1 negD (xk (.int 1)))) [.frz (encScene s), B, .own (encL (pre ++ [y])), .frz (encN t), J4, .frz (encLines (ln s y)), .frz (.str (tm s y).word), .frz (encG (tm s y).goals)] σ = some (encN (stepH (hop s) y), σ) := by
      unfold stepH
      cases hh : hop s y with
      | none => rw [hh] at ht; exact xif_f ht (hlast _ _ _ _)
      | some g =>
        rw [hh] at ht
        obtain ⟨_, hgo⟩ := hop_some.mp hh
        exact xif_t ht (xsub_eq rfl rfl (by rw [hgo]; rfl))
    have hb : lbBody [.frz (encScene s), B, .own (encL (pre ++ [y])), .frz (encN t), J4, j5, j6, j7] σ =
        some (.next, [.frz (encScene s), B, .own (encL (pre ++ [y] ++ [stepH (hop s) y])), .frz (encN t), J4, .frz (encLines (ln s y)), .frz (.str (tm s y).word), .frz (encG (tm s y).goals)], σ) :=
      seq1 hunp (seq1 (sappend_encL (l := pre ++ [y]) rfl hval (by simp; lia)) rfl)
    rw [List.map_cons, forL_next rfl hb, e]
    rw [List.length_cons, wayG_succ, List.append_assoc]
    rfl
theorem behind_ok {s : Scene} (ok : OkS s) {x : Nat} (hx : x < s.length) (σ : Src) : F_law_behind [encScene s, encN x] σ = some (encN (gonS s x), σ) := by
  refine gen ?_; intro GG kGG
  have hn := ok.len
  obtain ⟨j3, j5, j6, j7, e⟩ := lb_loop ok σ (.frz (encN x)) .un (List.range' 0 (2 * s.length)) [] x .un .un .un .un hx (by simp; lia)
  rw [List.length_range', List.nil_append, List.nil_append] at e
  have hbeh := gon_beh (h := hop s) (n := s.length) (x := x) (it_lt ok hx)
  have hwl := wayG_len (hop s) (2 * s.length) x
  refine kGG ?_; clear kGG
  show _ = some (encN (gon (hop s) s.length [] x), σ)
  generalize hW : wayG (hop s) (2 * s.length) x = W at *
  have hrange : irange (op2 mulD (xk (.int 2)) (op1 lenD (bname 0))) [.frz (encScene s), .frz (encN x), .own (encL [x]), .un, .un, .un, .un, .un] σ = some ((List.range' 0 (2 * s.length)).map encN, σ) := by
    refine irange_eq (op2_eq rfl (len_scene ok rfl) ?_) (by lia)
    show (if small 2 || small (s.length : Int) then some (D.int (2 * (s.length : Int))) else none) = _
    have : small 2 = true := by decide
    rw [this]
    simp
  have hslc : xslc (bname 2) (op1 lenD (bname 0)) (xk .none) [.frz (encScene s), .frz (encN x), .own (encL W), j3, .un, j5, j6, j7] σ = some (encL (W.drop s.length), σ) := by
    unfold xslc
    rw [show bname 2 [.frz (encScene s), .frz (encN x), .own (encL W), j3, .un, j5, j6, j7] σ = some (encL W, σ) from rfl]
    dsimp only
    rw [len_scene ok (show bname 0 [.frz (encScene s), .frz (encN x), .own (encL W), j3, .un, j5, j6, j7] σ = some (encScene s, σ) from rfl)]
    show (match (if (W.map encN).length ≤ 1000 then some (D.list (slL (some (s.length : Int)) none (W.map encN))) else none) with | some r => some (r, σ) | none => none) = _
    rw [List.length_map, if_pos (by lia), slL_drop _ _ (by rw [List.length_map]; lia)]
    unfold encL
    rw [List.map_drop]
  have hcomp : xcomp [4] (ival (xname 2)) cbname (t2 inD (bname 1) (bname 0)) (xname 1) [.frz (encScene s), .frz (encN x), .frz (encL W), j3, .frz (encL (W.drop s.length)), j5, j6, j7] σ = some (encL (W.filter fun y => (W.drop s.length).contains y), σ) := by
    refine xcomp_eq (ds := W.map encN) rfl (by rw [List.length_map]; lia) rfl ?_
    show compL cbname _ _ [.frz (encL (W.drop s.length))] _ σ = _
    exact compL_gen encN (fun y => [encN y]) _ encN W (fun _ _ => rfl) (fun y _ => t2_eq rfl rfl (inD_encN _ y)) (fun y _ _ => rfl)
  have hidx : subS σ (encL (W.filter fun y => (W.drop s.length).contains y)) (.int 0) = some (encN (gon (hop s) s.length [] x)) := by
    cases hF : W.filter fun y => (W.drop s.length).contains y with
    | nil => rw [hF] at hbeh; cases hbeh
    | cons a r => rw [hF] at hbeh; simp at hbeh; rw [← hbeh]; rfl
  have hret : sret (xsub (xcomp [4] (ival (xname 2)) cbname (t2 inD (bname 1) (bname 0)) (xname 1)) (xk (.int 0))) [.frz (encScene s), .frz (encN x), .frz (encL W), j3, .frz (encL (W.drop s.length)), j5, j6, j7] σ = _ := sret_eq (xsub_eq hcomp rfl hidx)
  exact fdef_eq rfl (show f_law_behind _ _ = _ from by
    unfold f_law_behind
    exact seq1 rfl (seq1 (sfor_eq hrange e) (seq1 (sset_eq (cfrz_eq hslc)) (xsetR rfl (sseq_ret hret)))))
end Mine
end
section
open PySem PySem.W
set_option linter.unusedVariables false
namespace Mine
noncomputable def reT (f : Nat → Nat) : Tm → Tm
  | .goto g => .goto (f g)
  | .switch rows last => .switch (rows.map f) (last.map f)
  | .call g => .call (g.map f)
  | .drop g => .drop (f g)
  | .assert g => .assert (f g)
  | .panic => .panic
  | .ret => .ret
  | .unr => .unr
theorem reT_word (f : Nat → Nat) (t : Tm) : (reT f t).word = t.word := by cases t <;> rfl
theorem reT_goals (f : Nat → Nat) (t : Tm) : (reT f t).goals = t.goals.map (Option.map f) := by
  cases t with
  | switch rows last =>
    show (rows.map f).map some ++ [last.map f] = (rows.map some ++ [last]).map (Option.map f)
    rw [List.map_append, List.map_map, List.map_map]
    rfl
  | _ => rfl
theorem okDs_rows (n : Nat) : ∀ (rows : List Nat) (k : Nat), okDs (n + 1) (encRows k rows) = true
  | [], _ => rfl
  | g :: r, k => by
    have := okDs_rows n r (k + 1)
    unfold encRows
    rw [okDs, this]
    rfl
theorem okD_O (n : Nat) (o : Option Nat) : okD n (encO o) = true := by cases o <;> cases n <;> rfl
theorem okD_T (n : Nat) (t : Tm) : okD (n + 5) (encT t) = true := by
  cases t with
  | switch rows last =>
    show (true && (true && (okDs (n + 3) (encRows 0 rows) && (okD (n + 4) (encO last) && true)))) = true
    rw [okDs_rows, okD_O]; rfl
  | call g =>
    show (true && (true && (true && (true && (okD (n + 4) (encO g) && true))))) = true
    rw [okD_O]; rfl
  | _ => rfl
theorem noLams_rows : ∀ (rows : List Nat) (k : Nat), noLams (encRows k rows) = true
  | [], _ => rfl
  | g :: r, k => by
    have := noLams_rows r (k + 1)
    unfold encRows
    rw [noLams, this]
    rfl
theorem noLam_O (o : Option Nat) : noLam (encO o) = true := by cases o <;> rfl
theorem noLam_T (t : Tm) : noLam (encT t) = true := by
  cases t with
  | switch rows last =>
    show (true && (true && (noLams (encRows 0 rows) && (noLam (encO last) && true)))) = true
    rw [noLams_rows, noLam_O]; rfl
  | call g =>
    show (true && (true && (true && (true && (noLam (encO g) && true))))) = true
    rw [noLam_O]; rfl
  | _ => rfl
theorem okD_lines (n k : Nat) : okD (n + 2) (encLines k) = true := by
  show okDs (n + 1) (List.replicate k (.tup [.str "nop"])) = true
  induction k with
  | zero => rfl
  | succ k ih => rw [List.replicate_succ, okDs, ih]; rfl
theorem okDs_blk (n : Nat) : ∀ bs : List Blk, okDs (n + 6) (bs.map blkB) = true
  | [] => rfl
  | b :: bs => by
    rw [List.map_cons, okDs, okDs_blk n bs]
    show ((okD (n + 5) (encLines b.lines) && (okD (n + 5) (encT b.t) && true)) && true) = true
    rw [okD_lines, okD_T]; rfl
theorem of_mem {s : Scene} {b : Blk} (h : b ∈ s) : ∃ x, x < s.length ∧ tm s x = b.t ∧ ln s x = b.lines := by
  obtain ⟨x, hx, e⟩ := List.getElem_of_mem h
  refine ⟨x, hx, ?_, ?_⟩
  · unfold tm; rw [List.getElem?_eq_getElem hx, e]
  · unfold ln; rw [List.getElem?_eq_getElem hx, e]
theorem OkS.blk {s : Scene} (ok : OkS s) {b : Blk} (h : b ∈ s) : b.lines ≤ 2 ∧ b.t.goals.length ≤ 4 ∧ ∀ g, some g ∈ b.t.goals → g < s.length := by
  obtain ⟨x, _, h1, h2⟩ := of_mem h
  rw [← h1, ← h2]
  exact ⟨ok.lns x, ok.few x, ok.lt x⟩
theorem listD_lines (k : Nat) (h : k ≤ 2) : listD (encLines k) = some (encLines k) := by
  show (if (List.replicate k (D.tup [.str "nop"])).length ≤ 1000 then some (encLines k) else none) = _
  rw [List.length_replicate, if_pos (by lia)]
/-! ## _law_body, copied -/
theorem filter_true {α : Type} (l : List α) : (l.filter fun _ => true) = l := List.filter_eq_self.mpr fun _ _ => rfl
theorem body_ok {s : Scene} (ok : OkS s) (σ : Src) : F_law_body [encScene s] σ = some (encBody s, σ) := by
  have hn := ok.len
  have hc : xcomp [] (ival (xname 0)) (cbtup 3) tt (xlist (lcons (op1 listD (bname 0)) (lcons (xcall F_law_end (lcons (xname 1) (lcons (xname 2) lnil))) lnil))) [.frz (encScene s), .frz toldL] σ = some (.list (s.map blkB), σ) := by
    refine xcomp_eq (ds := s.map encBlk) rfl (by rw [List.length_map]; lia) rfl ?_
    show compL (cbtup 3) tt _ [] _ σ = _
    rw [compL_gen encBlk (fun b => [encLines b.lines, .str b.t.word, encG b.t.goals]) (fun _ => true) blkB s (fun _ _ => rfl) (fun _ _ => rfl) (fun b hb _ => by
      obtain ⟨h1, h2, h3⟩ := ok.blk hb
      exact xlist_eq (lcons_eq (op1_eq rfl (listD_lines _ h1)) (lcons_eq ((xcall_eq rfl).trans (end_ok b.t σ (by lia))) rfl)) (by simp)), filter_true]
  have hb : xbody4 (lcons (xk (.str "f")) (lcons (xk (.int 0)) (lcons (xname 1) (lcons (xcomp [] (ival (xname 0)) (cbtup 3) tt (xlist (lcons (op1 listD (bname 0)) (lcons (xcall F_law_end (lcons (xname 1) (lcons (xname 2) lnil))) lnil)))) lnil)))) [.frz (encScene s), .frz toldL] σ = some (encBody s, σ) := by
    unfold xbody4
    rw [lcons_eq (σ1 := σ) (σ2 := σ) (d := .str "f") (ds := [.int 0, toldL, .list (s.map blkB)]) rfl (lcons_eq rfl (lcons_eq rfl (lcons_eq hc rfl)))]
    rfl
  exact fdef_eq rfl (show f_law_body _ _ = _ from by unfold f_law_body; exact seq1 rfl (sseq_ret (sret_eq hb)))
theorem copied_ok {s : Scene} (ok : OkS s) (σ : Src) : Fcopied [encBody s] σ = some ([.str "f", .int 0, toldL, .list (s.map blkB), .dict [] []], σ) := by
  have hn := ok.len
  have hc : xcomp [] (ival (xattr 3 (xname 0))) (cbtup 2) tt (xlist (lcons (op1 listD (bname 0)) (lcons (xname 1) lnil))) [.frz (encBody s), .un] σ = some (.list (s.map blkB), σ) := by
    refine xcomp_eq (ds := s.map blkB) rfl (by rw [List.length_map]; lia) rfl ?_
    show compL (cbtup 2) tt _ [] _ σ = _
    rw [compL_gen blkB (fun b => [encLines b.lines, encT b.t]) (fun _ => true) blkB s (fun _ _ => rfl) (fun _ _ => rfl) (fun b hb _ => by
      obtain ⟨h1, h2, h3⟩ := ok.blk hb
      exact xlist_eq (lcons_eq (op1_eq rfl (listD_lines _ h1)) (lcons_eq rfl rfl)) (by simp)), filter_true]
  have hs : sset 1 (cown (xcomp [] (ival (xattr 3 (xname 0))) (cbtup 2) tt (xlist (lcons (op1 listD (bname 0)) (lcons (xname 1) lnil))))) (vars0 [encBody s] 1) σ = some (.next, [.frz (encBody s), .own (.list (s.map blkB))], σ) := sset_eq (cown_eq hc)
  unfold Fcopied fcop
  rw [if_pos (show [encBody s].length = 1 from rfl), hs]
  rfl
/-! ## retargeted -/
theorem turn_eq {s : Scene} (ok : OkS s) {ρ : Vars} {σ : Src} {i : Nat} {f : EX} {g : Nat} (h : ρ[i]? = some (.frz (.lam (encBody s)))) (hf : f ρ σ = some (encN g, σ)) (hg : g < s.length) : xturn i fLam f ρ σ = some (encN (gonS s g), σ) := by
  unfold xturn
  rw [h]
  dsimp only
  rw [hf]
  show xcall Fgoes_on (lcons (xname 0) (lcons (xname 1) lnil)) [.frz (encBody s), .frz (encN g)] σ = _
  exact (xcall_eq rfl).trans (goes_ok ok hg σ)
theorem comp_turn {s : Scene} (ok : OkS s) (σ : Src) : ∀ (rows : List Nat) (k : Nat), (∀ g ∈ rows, g < s.length) →
    compL (cbtup 2) tt (xtup (lcons (xname 1) (lcons (xturn 0 fLam (xname 2)) lnil))) [.frz (.lam (encBody s))] (encRows k rows) σ = some (encRows k (rows.map (gonS s)), σ)
  | [], k, _ => rfl
  | g :: r, k, h => compL_true (ls := [encN k, encN g]) rfl rfl (xtup_eq (lcons_eq rfl (lcons_eq (turn_eq ok rfl rfl (h g (.head _))) rfl)) (by simp)) (comp_turn ok σ r (k + 1) fun g' hg' => h g' (.tail _ hg'))
theorem isD_none (o : Option Nat) : isD (encO o) .none = some (.bool o.isNone) := by cases o <;> rfl
/-- None stays, a block is turned -/
theorem xif_O {s : Scene} (ok : OkS s) {ρ : Vars} {σ : Src} {i : Nat} {f : EX} {o : Option Nat} (h : ρ[i]? = some (.frz (.lam (encBody s)))) (hf : f ρ σ = some (encO o, σ)) (hg : ∀ g, o = some g → g < s.length) :
    xif (t2 isD f (xk .none)) (xk .none) (xturn i fLam f) ρ σ = some (encO (o.map (gonS s)), σ) := by
  have ht := t2_eq (g := isD) hf (f2 := xk .none) rfl (isD_none o)
  cases o with
  | none => exact xif_t ht rfl
  | some g => exact xif_f ht (turn_eq ok h hf (hg g rfl))
theorem retarget_ok {s : Scene} (ok : OkS s) {t : Tm} (h4 : t.goals.length ≤ 4) (hlt : ∀ g, some g ∈ t.goals → g < s.length) (σ : Src) : Fretargeted [encT t, .lam (encBody s)] σ = some (encT (reT (gonS s) t), σ) := by
  have hw : sset 2 (cfrz (xsub (bname 0) (xk (.int 0)))) (vars0 [encT t, .lam (encBody s)] 2) σ = some (.next, [.frz (encT t), .frz (.lam (encBody s)), .frz (.str t.word), .un], σ) := sset_eq (cfrz_eq (xsub_eq rfl rfl (word0 σ t)))
  have fin : ∀ {d : D} {ρ : Vars}, fretargeted (vars0 [encT t, .lam (encBody s)] 2) σ = some (.ret d, ρ, σ) → Fretargeted [encT t, .lam (encBody s)] σ = some (d, σ) := fun e => fdef_eq rfl e
  cases t with
  | goto g =>
    refine fin (ρ := [.frz (encT (.goto g)), .frz (.lam (encBody s)), .frz (.str "goto"), .un]) ?_
    unfold fretargeted
    exact seq1 hw (sseq_ret (if_t rfl (sseq_ret (sret_eq (xtup_eq (lcons_eq rfl (lcons_eq (turn_eq ok rfl rfl (hlt g (by simp [glG, glS, glC, glD, glA, glR, glP, glU]))) rfl)) (by simp))))))
  | switch rows last =>
    have hr : ∀ g ∈ rows, g < s.length := fun g hg => hlt g (by simp [glG, glS, glC, glD, glA, glR, glP, glU, hg])
    have hl : rows.length ≤ 4 := by simp [glG, glS, glC, glD, glA, glR, glP, glU] at h4; lia
    refine fin (ρ := [.frz (encT (.switch rows last)), .frz (.lam (encBody s)), .frz (.str "switch"), .frz (.tup (encRows 0 (rows.map (gonS s))))]) ?_
    unfold fretargeted
    have hc : xcomp [1] (ival (xsub (bname 0) (xk (.int 2)))) (cbtup 2) tt (xtup (lcons (xname 1) (lcons (xturn 0 fLam (xname 2)) lnil))) [.frz (encT (.switch rows last)), .frz (.lam (encBody s)), .frz (.str "switch"), .un] σ = some (.list (encRows 0 (rows.map (gonS s))), σ) :=
      xcomp_eq (ds := encRows 0 rows) rfl (by rw [encRows_len]; lia) rfl (comp_turn ok σ rows 0 hr)
    have ht : op1 tupD (xcomp [1] (ival (xsub (bname 0) (xk (.int 2)))) (cbtup 2) tt (xtup (lcons (xname 1) (lcons (xturn 0 fLam (xname 2)) lnil)))) [.frz (encT (.switch rows last)), .frz (.lam (encBody s)), .frz (.str "switch"), .un] σ = some (.tup (encRows 0 (rows.map (gonS s))), σ) :=
      op1_eq hc (by
        show (if (encRows 0 (rows.map (gonS s))).length ≤ 1000 then some (D.tup (encRows 0 (rows.map (gonS s)))) else none) = _
        rw [if_pos (by rw [encRows_len, List.length_map]; lia)])
    have hx := xif_O ok (ρ := [.frz (encT (.switch rows last)), .frz (.lam (encBody s)), .frz (.str "switch"), .frz (.tup (encRows 0 (rows.map (gonS s))))]) (σ := σ) (i := 1) (f := xsub (bname 0) (xk (.int 3))) (o := last) rfl rfl (fun g e => hlt g (by simp [glG, glS, glC, glD, glA, glR, glP, glU, e]))
    exact seq1 hw (seq1 (if_f rfl rfl) (sseq_ret (if_t rfl (seq1 (sset_eq (cfrz_eq ht)) (sseq_ret (sret_eq (xtup_eq (lcons_eq rfl (lcons_eq rfl (lcons_eq rfl (lcons_eq hx rfl)))) (by simp))))))))
  | call g =>
    refine fin (ρ := [.frz (encT (.call g)), .frz (.lam (encBody s)), .frz (.str "call"), .un]) ?_
    unfold fretargeted
    have hx := xif_O ok (ρ := [.frz (encT (.call g)), .frz (.lam (encBody s)), .frz (.str "call"), .un]) (σ := σ) (i := 1) (f := xsub (bname 0) (xk (.int 4))) (o := g) rfl rfl (fun g' e => hlt g' (by simp [glG, glS, glC, glD, glA, glR, glP, glU, e]))
    exact seq1 hw (seq1 (if_f rfl rfl) (seq1 (if_f rfl rfl) (sseq_ret (if_t rfl (sseq_ret (sret_eq (op2_eq (d := .tup [.str "call", .tup [.str "fn", .str "f", .tup []], .tup [], .tup [.int 0, .tup []]]) rfl (xtup_eq (lcons_eq hx rfl) (by simp)) rfl)))))))
  | drop g =>
    refine fin (ρ := [.frz (encT (.drop g)), .frz (.lam (encBody s)), .frz (.str "drop"), .un]) ?_
    unfold fretargeted
    exact seq1 hw (seq1 (if_f rfl rfl) (seq1 (if_f rfl rfl) (seq1 (if_f rfl rfl) (sseq_ret (if_t rfl (sseq_ret (sret_eq (xtup_eq (lcons_eq rfl (lcons_eq rfl (lcons_eq (turn_eq ok rfl rfl (hlt g (by simp [glG, glS, glC, glD, glA, glR, glP, glU]))) rfl))) (by simp)))))))))
  | assert g =>
    refine fin (ρ := [.frz (encT (.assert g)), .frz (.lam (encBody s)), .frz (.str "assert"), .un]) ?_
    unfold fretargeted
    exact seq1 hw (seq1 (if_f rfl rfl) (seq1 (if_f rfl rfl) (seq1 (if_f rfl rfl) (seq1 (if_f rfl rfl) (sseq_ret (if_t rfl (sseq_ret (sret_eq (op2_eq (d := .tup [.str "assert", cpD, .bool true, .str "told"]) rfl (xtup_eq (lcons_eq (turn_eq ok rfl rfl (hlt g (by simp [glG, glS, glC, glD, glA, glR, glP, glU]))) rfl) (by simp)) rfl))))))))) 
  | panic => exact fin (ρ := [.frz (encT .panic), .frz (.lam (encBody s)), .frz (.str "panic"), .un]) rfl
  | ret => exact fin (ρ := [.frz (encT .ret), .frz (.lam (encBody s)), .frz (.str "return"), .un]) rfl
  | unr => exact fin (ρ := [.frz (encT .unr), .frz (.lam (encBody s)), .frz (.str "unreachable"), .un]) rfl
/-! ## threaded -/
noncomputable def thrB (s : Scene) (b : Blk) : Blk := ⟨b.lines, plainT (reT (gonS s) b.t)⟩
noncomputable def thBody : SF := (sseq (sunp [4, 5] (xsub (xattr 3 (xname 0)) (bname 2))) (sseq (sset 3 (cfrz (xlam 0 Fretargeted (xname 5)))) (sseq (sputOb 1 (xname 2) (xlist (lcons (op1 listD (bname 4)) (lcons (xcall Fplain_switch (lcons (xname 3) lnil)) lnil)))) snil)))
theorem threaded_ok {s : Scene} (ok : OkS s) (σ : Src) : Fthreaded [encBody s] σ = some (encBody (s.map (thrB s)), σ) := by
  have hn := ok.len
  have key : ∀ (rest done : List Blk) (R : List D) (j2 j3 j4 j5 : Cell), s = done ++ rest → R.length = rest.length →
      ∃ j2' j3' j4' j5', forL (tname 2) thBody ((List.range' done.length rest.length).map encN) [.frz (encBody s), .ob [.str "f", .int 0, toldL, .list ((done.map fun b => blkB (thrB s b)) ++ R), .dict [] []], j2, j3, j4, j5] σ =
        some (.next, [.frz (encBody s), .ob [.str "f", .int 0, toldL, .list (s.map fun b => blkB (thrB s b)), .dict [] []], j2', j3', j4', j5'], σ) := by
    intro rest
    induction rest with
    | nil =>
      intro done R j2 j3 j4 j5 hs hR
      have : R = [] := List.length_eq_zero_iff.mp hR
      subst this
      rw [List.append_nil] at hs
      subst hs
      rw [List.append_nil]
      exact ⟨j2, j3, j4, j5, rfl⟩
    | cons b rest ih =>
      intro done R j2 j3 j4 j5 hs hR
      match R, hR with
      | r :: R, hR =>
        have hbm : b ∈ s := by rw [hs]; simp
        obtain ⟨b1, b2, b3⟩ := ok.blk hbm
        have hdl : done.length < s.length := by rw [hs]; simp
        have hat : s[done.length]? = some b := by rw [hs]; simp
        have hsl : s.length = done.length + (rest.length + 1) := by rw [hs]; simp
        obtain ⟨j2', j3', j4', j5', e⟩ := ih (done ++ [b]) R (.frz (encN done.length)) (.frz (encT (reT (gonS s) b.t))) (.frz (encLines b.lines)) (.frz (encT b.t)) (by rw [hs]; simp) (by simpa using hR)
        refine ⟨j2', j3', j4', j5', ?_⟩
        have hblk : xsub (xattr 3 (xname 0)) (bname 2) [.frz (encBody s), .ob [.str "f", .int 0, toldL, .list ((done.map fun b => blkB (thrB s b)) ++ r :: R), .dict [] []], .frz (encN done.length), j3, j4, j5] σ = some (blkB b, σ) := by
          refine xsub_eq (blocks_eq rfl) rfl ?_
          show idx _ _ = _
          rw [idx_map _ _ _ (by lia), hat]
          rfl
        have hlam : xlam 0 Fretargeted (xname 5) [.frz (encBody s), .ob [.str "f", .int 0, toldL, .list ((done.map fun b => blkB (thrB s b)) ++ r :: R), .dict [] []], .frz (encN done.length), j3, .frz (encLines b.lines), .frz (encT b.t)] σ = some (encT (reT (gonS s) b.t), σ) := by
          show (match Fretargeted [encT b.t, .lam (encBody s)] σ with
            | some (d, σ) => if noLam d = true then some (d, σ) else none
            | none => none) = _
          rw [retarget_ok ok b2 b3 σ]
          dsimp only
          rw [if_pos (noLam_T _)]
        have hpl : xcall Fplain_switch (lcons (xname 3) lnil) [.frz (encBody s), .ob [.str "f", .int 0, toldL, .list ((done.map fun b => blkB (thrB s b)) ++ r :: R), .dict [] []], .frz (encN done.length), .frz (encT (reT (gonS s) b.t)), .frz (encLines b.lines), .frz (encT b.t)] σ = some (encT (plainT (reT (gonS s) b.t)), σ) :=
          (xcall_eq rfl).trans (plain_ok _ σ (by rw [reT_goals, List.length_map]; lia))
        have hput : sputOb 1 (xname 2) (xlist (lcons (op1 listD (bname 4)) (lcons (xcall Fplain_switch (lcons (xname 3) lnil)) lnil))) [.frz (encBody s), .ob [.str "f", .int 0, toldL, .list ((done.map fun b => blkB (thrB s b)) ++ r :: R), .dict [] []], .frz (encN done.length), .frz (encT (reT (gonS s) b.t)), .frz (encLines b.lines), .frz (encT b.t)] σ =
            some (.next, [.frz (encBody s), .ob [.str "f", .int 0, toldL, .list (((done ++ [b]).map fun b => blkB (thrB s b)) ++ R), .dict [] []], .frz (encN done.length), .frz (encT (reT (gonS s) b.t)), .frz (encLines b.lines), .frz (encT b.t)], σ) := by
          unfold sputOb
          rw [xlist_eq (ds := [encLines b.lines, encT (plainT (reT (gonS s) b.t))]) (lcons_eq (op1_eq rfl (listD_lines _ b1)) (lcons_eq hpl rfl)) (by simp)]
          have hset : setOb [.str "f", .int 0, toldL, .list ((done.map fun b => blkB (thrB s b)) ++ r :: R), .dict [] []] (done.length : Int) (.list [encLines b.lines, encT (plainT (reT (gonS s) b.t))]) =
              some [.str "f", .int 0, toldL, .list (((done ++ [b]).map fun b => blkB (thrB s b)) ++ R), .dict [] []] := by
            unfold setOb
            dsimp only
            simp only [List.length_cons] at hR
            rw [if_pos ⟨by lia, by simp; lia, by simp; lia⟩]
            have : ((done.map fun b => blkB (thrB s b)) ++ r :: R).set ((done.length : Int)).toNat (.list [encLines b.lines, encT (plainT (reT (gonS s) b.t))]) = ((done ++ [b]).map fun b => blkB (thrB s b)) ++ R := by
              rw [Int.toNat_natCast, List.set_append_right _ _ (by simp)]
              simp
              rfl
            rw [this]
          show (match setOb [.str "f", .int 0, toldL, .list ((done.map fun b => blkB (thrB s b)) ++ r :: R), .dict [] []] (done.length : Int) (.list [encLines b.lines, encT (plainT (reT (gonS s) b.t))]) with
            | some ds' => _ | none => none) = _
          rw [hset]
          rfl
        have hb : thBody [.frz (encBody s), .ob [.str "f", .int 0, toldL, .list ((done.map fun b => blkB (thrB s b)) ++ r :: R), .dict [] []], .frz (encN done.length), j3, j4, j5] σ =
            some (.next, [.frz (encBody s), .ob [.str "f", .int 0, toldL, .list (((done ++ [b]).map fun b => blkB (thrB s b)) ++ R), .dict [] []], .frz (encN done.length), .frz (encT (reT (gonS s) b.t)), .frz (encLines b.lines), .frz (encT b.t)], σ) :=
          seq1 (sunp_eq hblk rfl) (seq1 (sset_eq (cfrz_eq hlam)) (seq1 hput rfl))
        rw [List.length_cons, List.range'_succ, List.map_cons, forL_next rfl hb]
        have e2 : (done ++ [b]).length = done.length + 1 := by simp
        rw [e2] at e
        exact e
  obtain ⟨j2, j3, j4, j5, e⟩ := key s [] (s.map blkB) .un .un .un .un rfl (by simp)
  have hcob : cob Fcopied (lcons (xname 0) lnil) [.frz (encBody s), .un, .un, .un, .un, .un] σ = some (.ob [.str "f", .int 0, toldL, .list (s.map blkB), .dict [] []], σ) := by
    show (match Fcopied [encBody s] σ with | some (bs, σ) => some (Cell.ob bs, σ) | none => none) = _
    rw [copied_ok ok]
  have hrange : irange (op1 lenD (xattr 3 (xname 0))) [.frz (encBody s), .ob [.str "f", .int 0, toldL, .list (s.map blkB), .dict [] []], .un, .un, .un, .un] σ = some ((List.range' 0 s.length).map encN, σ) := by
    refine irange_eq (op1_eq (blocks_eq rfl) ?_) (by lia)
    show (if (s.map blkB).length ≤ 1000 then some (D.int ((s.map blkB).length : Int)) else none) = _
    rw [List.length_map, if_pos (by lia)]
  have hfin : (s.map fun b => blkB (thrB s b)) = (s.map (thrB s)).map blkB := by rw [List.map_map]; rfl
  rw [hfin] at e
  exact fdef_eq rfl (show fthreaded _ _ = _ from by
    unfold fthreaded
    exact seq1 (sset_eq hcob) (seq1 (sfor_eq hrange e) rfl))
end Mine
end
section
open PySem PySem.W
set_option linter.unusedVariables false
namespace Mine
/-! ## _law_threads_right -/
noncomputable def trBody : SF := (sseq (sif (t2 neD (xcall Fplain_switch (lcons (xcall F_law_end (lcons (xname 4) (lcons (xname 5) lnil))) lnil)) (xcall F_law_plain (lcons (xname 4) (lcons (xname 5) lnil)))) (sseq (sret (xk (.bool false)))
  snil) snil)
  (sseq (sset 6 (cfrz (op1 tupD (xcomp [0] (ival (xname 5)) cbname tt (xif (t2 isD (bname 1) (xk .none)) (xk .none) (xcall F_law_behind (lcons (xname 0) (lcons (xname 1) lnil))))))))
  (sseq (sappend 2 (xlist (lcons (xname 3) (lcons (xcall F_law_plain (lcons (xname 4) (lcons (xname 6) lnil))) lnil))))
  snil)))
theorem tr_step {s : Scene} (ok : OkS s) (σ : Src) (B J6 : Cell) (D0 : List D) (hD : D0.length ≤ 900) {b : Blk} (hb : b ∈ s) :
    trBody [.frz (encScene s), B, .own (.list D0), .frz (encLines b.lines), .frz (.str b.t.word), .frz (encG b.t.goals), J6] σ =
      some (.next, [.frz (encScene s), B, .own (.list (D0 ++ [blkB (thrB s b)])), .frz (encLines b.lines), .frz (.str b.t.word), .frz (encG b.t.goals), .frz (encG (reT (gonS s) b.t).goals)], σ) := by
  obtain ⟨b1, b2, b3⟩ := ok.blk hb
  have ht : t2 neD (xcall Fplain_switch (lcons (xcall F_law_end (lcons (xname 4) (lcons (xname 5) lnil))) lnil)) (xcall F_law_plain (lcons (xname 4) (lcons (xname 5) lnil))) [.frz (encScene s), B, .own (.list D0), .frz (encLines b.lines), .frz (.str b.t.word), .frz (encG b.t.goals), J6] σ = some (false, σ) := by
    refine t2_eq (d := encT (plainT b.t)) (e := encT (plainT b.t)) ((xcall_eq (lcons_eq ((xcall_eq rfl).trans (end_ok b.t σ (by lia))) rfl)).trans (plain_ok b.t σ (by lia))) ((xcall_eq rfl).trans (lplain_ok b.t σ (by lia))) ?_
    exact neD_refl (okD_T 11 _)
  have hc : xcomp [0] (ival (xname 5)) cbname tt (xif (t2 isD (bname 1) (xk .none)) (xk .none) (xcall F_law_behind (lcons (xname 0) (lcons (xname 1) lnil)))) [.frz (encScene s), B, .own (.list D0), .frz (encLines b.lines), .frz (.str b.t.word), .frz (encG b.t.goals), J6] σ =
      some (.list ((reT (gonS s) b.t).goals.map encO), σ) := by
    refine xcomp_eq (ds := b.t.goals.map encO) rfl (by rw [List.length_map]; lia) rfl ?_
    show compL cbname tt _ [.frz (encScene s)] _ σ = _
    rw [compL_gen encO (fun o => [encO o]) (fun _ => true) (fun o => encO (o.map (gonS s))) b.t.goals (fun _ _ => rfl) (fun _ _ => rfl) (fun o ho _ => by
      have ht := t2_eq (g := isD) (ρ := [.frz (encScene s)] ++ [encO o].map .frz) (f1 := bname 1) (σ := σ) rfl (f2 := xk .none) rfl (isD_none o)
      cases o with
      | none => exact xif_t ht rfl
      | some g => exact xif_f ht ((xcall_eq rfl).trans (behind_ok ok (b3 g ho) σ))), filter_true, reT_goals, List.map_map]
    rfl
  have hl : op1 tupD (xcomp [0] (ival (xname 5)) cbname tt (xif (t2 isD (bname 1) (xk .none)) (xk .none) (xcall F_law_behind (lcons (xname 0) (lcons (xname 1) lnil))))) [.frz (encScene s), B, .own (.list D0), .frz (encLines b.lines), .frz (.str b.t.word), .frz (encG b.t.goals), J6] σ =
      some (encG (reT (gonS s) b.t).goals, σ) := op1_eq hc (by
    show (if ((reT (gonS s) b.t).goals.map encO).length ≤ 1000 then some (encG (reT (gonS s) b.t).goals) else none) = _
    rw [List.length_map, reT_goals, List.length_map, if_pos (by lia)])
  have hp : xcall F_law_plain (lcons (xname 4) (lcons (xname 6) lnil)) [.frz (encScene s), B, .own (.list D0), .frz (encLines b.lines), .frz (.str b.t.word), .frz (encG b.t.goals), .frz (encG (reT (gonS s) b.t).goals)] σ = some (encT (plainT (reT (gonS s) b.t)), σ) := by
    have := lplain_ok (reT (gonS s) b.t) σ (by rw [reT_goals, List.length_map]; lia)
    rw [reT_word] at this
    exact (xcall_eq rfl).trans this
  exact seq1 (if_f ht rfl) (seq1 (sset_eq (cfrz_eq hl)) (seq1 (sappend_eq (d := blkB (thrB s b)) rfl (xlist_eq (lcons_eq rfl (lcons_eq hp rfl)) (by simp)) (by lia)) rfl))
theorem threads_ok {s : Scene} (ok : OkS s) (σ : Src) : F_law_threads_right [encScene s] σ = some (.bool true, σ) := by
  refine gen ?_; intro GG kGG
  have hn := ok.len
  have key : ∀ (rest done : List Blk) (j3 j4 j5 j6 : Cell), s = done ++ rest →
      ∃ j3' j4' j5' j6', forL (ttup [3, 4, 5]) trBody (rest.map encBlk) [.frz (encScene s), .frz (encBody s), .own (.list (done.map fun b => blkB (thrB s b))), j3, j4, j5, j6] σ =
        some (.next, [.frz (encScene s), .frz (encBody s), .own (.list (s.map fun b => blkB (thrB s b))), j3', j4', j5', j6'], σ) := by
    intro rest
    induction rest with
    | nil => intro done j3 j4 j5 j6 hs; rw [List.append_nil] at hs; subst hs; exact ⟨j3, j4, j5, j6, rfl⟩
    | cons b rest ih =>
      intro done j3 j4 j5 j6 hs
      have hbm : b ∈ s := by rw [hs]; simp
      have hdl : done.length ≤ s.length := by rw [hs]; simp
      obtain ⟨j3', j4', j5', j6', e⟩ := ih (done ++ [b]) (.frz (encLines b.lines)) (.frz (.str b.t.word)) (.frz (encG b.t.goals)) (.frz (encG (reT (gonS s) b.t).goals)) (by rw [hs]; simp)
      refine ⟨j3', j4', j5', j6', ?_⟩
      have hb := tr_step ok σ (.frz (encBody s)) j6 (done.map fun b => blkB (thrB s b)) (by rw [List.length_map]; lia) hbm
      rw [List.map_cons, forL_next (ρ1 := [.frz (encScene s), .frz (encBody s), .own (.list (done.map fun b => blkB (thrB s b))), .frz (encLines b.lines), .frz (.str b.t.word), .frz (encG b.t.goals), j6]) rfl hb]
      rw [List.map_append] at e
      exact e
  obtain ⟨j3, j4, j5, j6, e⟩ := key s [] .un .un .un .un rfl
  have hpar : spar [1, 2] (lccons (cfrz (xcall F_law_body (lcons (xname 0) lnil))) (lccons (cown (xlist lnil)) lcnil)) (vars0 [encScene s] 6) σ = some (.next, [.frz (encScene s), .frz (encBody s), .own (.list []), .un, .un, .un, .un], σ) := by
    have h1 : cfrz (xcall F_law_body (lcons (xname 0) lnil)) (vars0 [encScene s] 6) σ = some (.frz (encBody s), σ) := cfrz_eq ((xcall_eq rfl).trans (body_ok ok σ))
    unfold spar lccons
    rw [h1]
    rfl
  have hfin : (s.map fun b => blkB (thrB s b)) = (s.map (thrB s)).map blkB := by rw [List.map_map]; rfl
  rw [hfin] at e
  have okL : ∀ bs : List Blk, okD 16 (.list (bs.map blkB)) = true := fun bs => okDs_blk 9 bs
  have h1 : op2 eqD (xattr 3 (xcall Fthreaded (lcons (xname 1) lnil))) (bname 2) [.frz (encScene s), .frz (encBody s), .own (.list ((s.map (thrB s)).map blkB)), j3, j4, j5, j6] σ = some (.bool true, σ) :=
    op2_eq (d := .list ((s.map (thrB s)).map blkB)) (xattr_eq (ds := [.str "f", .int 0, toldL, .list ((s.map (thrB s)).map blkB), .dict [] []]) ((xcall_eq rfl).trans (threaded_ok ok σ)) rfl) rfl (eqD_refl (okL _))
  have h2 : op2 eqD (xattr 3 (xname 1)) (xattr 3 (xcall F_law_body (lcons (xname 0) lnil))) [.frz (encScene s), .frz (encBody s), .own (.list ((s.map (thrB s)).map blkB)), j3, j4, j5, j6] σ = some (.bool true, σ) :=
    op2_eq (d := .list (s.map blkB)) (xattr_eq (ds := [.str "f", .int 0, toldL, .list (s.map blkB), .dict [] []]) rfl rfl) (xattr_eq (ds := [.str "f", .int 0, toldL, .list (s.map blkB), .dict [] []]) ((xcall_eq rfl).trans (body_ok ok σ)) rfl) (eqD_refl (okL _))
  refine kGG ?_; clear kGG
  exact fdef_eq rfl (show f_law_threads_right _ _ = _ from by
    unfold f_law_threads_right
    exact seq1 hpar (seq1 (sfor_eq (ival_list (ds := s.map encBlk) rfl) e) (sseq_ret (sret_eq (xand_t h1 h2)))))
/-! ## _law_ways_right -/
theorem okDs_cnt (n : Nat) (ks : List Nat) (cnt : Nat → Nat) : okDs n (ks.map (cntD cnt)) = true := by
  have : ks.map (cntD cnt) = (ks.map cnt).map encN := by rw [List.map_map]; rfl
  rw [this, okDs_encN]
theorem deq_encF {ks ls : List Nat} {cnt : Nat → Nat} (hp : ks.Perm ls) : deqD (encF ks (cntD cnt)) (encF ls (cntD cnt)) = some (.bool true) := by
  show (if okDs 8 (ks.map (cntD cnt)) && okDs 8 (ls.map (cntD cnt)) then some (D.bool (eqDicts (castL ks) (ks.map (cntD cnt)) (castL ls) (ls.map (cntD cnt)))) else none) = _
  rw [okDs_cnt, okDs_cnt]
  have : eqDicts (castL ks) (ks.map (cntD cnt)) (castL ls) (ls.map (cntD cnt)) = true := by
    unfold eqDicts
    rw [Bool.and_eq_true]
    constructor
    · unfold castL; simp [hp.length_eq]
    · rw [List.all_eq_true]
      intro p hpm
      have hz : (castL ks).zip (ks.map (cntD cnt)) = ks.map fun (k : Nat) => ((k : Int), cntD cnt k) := by
        unfold castL
        rw [List.zip_map']
      rw [hz] at hpm
      obtain ⟨k, hk, rfl⟩ := List.mem_map.mp hpm
      dsimp only
      rw [look_encF, if_pos (by simpa using hp.mem_iff.mp hk)]
      exact eqv_py _
  rw [this]
  rfl
theorem range_cons {d : D} {ds : List D} {t m : Nat} (h : d :: ds = (List.range' t m).map encN) : ∃ m', m = m' + 1 ∧ d = encN t ∧ ds = (List.range' (t + 1) m').map encN := by
  cases m with
  | zero => cases h
  | succ m => rw [List.range'_succ, List.map_cons] at h; cases h; exact ⟨m, rfl, rfl, rfl⟩
noncomputable def wrBody : SF := (sseq (sset 4 (cfrz (op2 addD (op1 lenD (xcomp [0, 3] (ival (xname 1)) cbname (t2 inD (bname 1) (xsub (xsub (bname 0) (bname 2)) (xk (.int 2)))) (xname 2))) (op1 intD (op2 eqD (bname 3) (xk (.int 0)))))))
  (sseq (sif (t2 gtI (bname 4) (xk (.int 0))) (sseq (sput 2 (xname 3) (xname 4))
  snil) snil)
  snil))
theorem ways_right_ok {s : Scene} (ok : OkS s) (σ : Src) (sm : List Nat) (hsm : ∀ x ∈ sm, x < s.length) (hl : sm.length ≤ 5) : F_law_ways_right [encScene s, encL sm] σ = some (.bool true, σ) := by
  refine gen ?_; intro GG kGG
  have hn := ok.len
  obtain ⟨ρ', e, t, m, ks, j3, j4, e1, e2, e3, e4, e5⟩ := forL_inv (tg := tname 3) (body := wrBody) (σ := σ)
    (fun ds ρ => ∃ t m ks j3 j4, ds = (List.range' t m).map encN ∧ t + m = s.length ∧ (ks.Nodup ∧ ks.length ≤ t) ∧ (∀ g, g ∈ ks ↔ g < t ∧ 0 < wcnt s sm g) ∧ ρ = [.frz (encScene s), .frz (encL sm), .own (encF ks (cntD (wcnt s sm))), j3, j4])
    (fun d ds ρ hI => by
      obtain ⟨t, m, ks, j3, j4, h1, h2, h3, h4, h5⟩ := hI
      obtain ⟨m, rfl, rfl, rfl⟩ := range_cons h1
      subst h5
      have htn : t < s.length := by lia
      have hcomp : xcomp [0, 3] (ival (xname 1)) cbname (t2 inD (bname 1) (xsub (xsub (bname 0) (bname 2)) (xk (.int 2)))) (xname 2) [.frz (encScene s), .frz (encL sm), .own (encF ks (cntD (wcnt s sm))), .frz (encN t), j4] σ = some (encL (sm.filter fun y => (succs s y).contains t), σ) := by
        refine xcomp_eq (ds := sm.map encN) rfl (by rw [List.length_map]; lia) rfl ?_
        show compL cbname _ _ [.frz (encScene s), .frz (encN t)] _ σ = _
        exact compL_gen encN (fun y => [encN y]) _ encN sm (fun _ _ => rfl) (fun y hy => t2_eq rfl (goals_at ok (x := y) rfl rfl (hsm y hy)) (inD_encG _ t)) (fun y hy _ => rfl)
      have hlen : op1 lenD (xcomp [0, 3] (ival (xname 1)) cbname (t2 inD (bname 1) (xsub (xsub (bname 0) (bname 2)) (xk (.int 2)))) (xname 2)) [.frz (encScene s), .frz (encL sm), .own (encF ks (cntD (wcnt s sm))), .frz (encN t), j4] σ = some (.int (tally s sm t : Nat), σ) := by
        refine op1_eq hcomp ?_
        show (if ((sm.filter fun y => (succs s y).contains t).map encN).length ≤ 1000 then some (D.int (((sm.filter fun y => (succs s y).contains t).map encN).length : Int)) else none) = _
        have := List.length_filter_le (fun y => (succs s y).contains t) sm
        rw [List.length_map, if_pos (by lia)]
        rfl
      have hz : op1 intD (op2 eqD (bname 3) (xk (.int 0))) [.frz (encScene s), .frz (encL sm), .own (encF ks (cntD (wcnt s sm))), .frz (encN t), j4] σ = some (.int (if t = 0 then 1 else 0), σ) := by
        refine op1_eq (op2_eq rfl rfl (eqI t 0)) ?_
        show some (D.int (if (t == 0) = true then 1 else 0)) = _
        by_cases e : t = 0 <;> simp [e]
      have hset : sset 4 (cfrz (op2 addD (op1 lenD (xcomp [0, 3] (ival (xname 1)) cbname (t2 inD (bname 1) (xsub (xsub (bname 0) (bname 2)) (xk (.int 2)))) (xname 2))) (op1 intD (op2 eqD (bname 3) (xk (.int 0)))))) [.frz (encScene s), .frz (encL sm), .own (encF ks (cntD (wcnt s sm))), .frz (encN t), j4] σ =
          some (.next, [.frz (encScene s), .frz (encL sm), .own (encF ks (cntD (wcnt s sm))), .frz (encN t), .frz (encN (wcnt s sm t))], σ) := by
        refine sset_eq (cfrz_eq (op2_eq hlen hz ?_))
        show some (D.int ((tally s sm t : Int) + (if t = 0 then 1 else 0))) = some (D.int ((wcnt s sm t : Nat) : Int))
        congr 2
        unfold wcnt
        split <;> lia
      have htest : t2 gtI (bname 4) (xk (.int 0)) [.frz (encScene s), .frz (encL sm), .own (encF ks (cntD (wcnt s sm))), .frz (encN t), .frz (encN (wcnt s sm t))] σ = some (decide (0 < wcnt s sm t), σ) := by
        refine t2_eq rfl rfl ?_
        show some (D.bool (decide ((wcnt s sm t : Int) > 0))) = _
        congr 2
        rw [decide_eq_decide]
        lia
      by_cases hw : 0 < wcnt s sm t
      · rw [decide_eq_true hw] at htest
        have htk : ks.contains t = false := by
          cases hc : ks.contains t with
          | false => rfl
          | true =>
            have := ((h4 t).mp (by simpa using hc)).1
            lia
        have hadd : addK ks t = ks ++ [t] := by unfold addK; rw [htk]; rfl
        have hupd : updF (cntD (wcnt s sm)) t (encN (wcnt s sm t)) = cntD (wcnt s sm) := by
          funext k; unfold updF cntD; by_cases e : k = t <;> simp [e]
        refine ⟨_, [.frz (encScene s), .frz (encL sm), .own (encF (addK ks t) (cntD (wcnt s sm))), .frz (encN t), .frz (encN (wcnt s sm t))], rfl, .inl (seq1 hset (seq1 (if_t htest (seq1 (sput_encF (σ1 := σ) (g := t) rfl rfl rfl (by lia)) ?_)) rfl)), t + 1, m, addK ks t, .frz (encN t), .frz (encN (wcnt s sm t)), rfl, by lia, ⟨addK_nodup h3.1, by rw [hadd]; simp; lia⟩, fun g => ?_, rfl⟩
        · rw [hupd]; rfl
        · rw [mem_addK, h4]
          constructor
          · rintro (h | rfl)
            · exact ⟨by lia, h.2⟩
            · exact ⟨by lia, hw⟩
          · rintro ⟨h, h'⟩
            by_cases e : g = t
            · exact .inr e
            · exact .inl ⟨by lia, h'⟩
      · rw [decide_eq_false hw] at htest
        refine ⟨_, [.frz (encScene s), .frz (encL sm), .own (encF ks (cntD (wcnt s sm))), .frz (encN t), .frz (encN (wcnt s sm t))], rfl, .inl (seq1 hset (seq1 (if_f htest rfl) rfl)), t + 1, m, ks, .frz (encN t), .frz (encN (wcnt s sm t)), rfl, by lia, ⟨h3.1, by lia⟩, fun g => ?_, rfl⟩
        rw [h4]
        constructor
        · exact fun h => ⟨by lia, h.2⟩
        · rintro ⟨h, h'⟩
          by_cases e : g = t
          · subst e; exact absurd h' hw
          · exact ⟨by lia, h'⟩)
    ⟨0, s.length, [], .un, .un, rfl, by lia, ⟨.nil, Nat.le_refl _⟩, fun g => by simp, rfl⟩
  have hm : m = 0 := by
    cases m with
    | zero => rfl
    | succ m => rw [List.range'_succ] at e1; cases e1
  subst hm
  obtain ⟨ks', hk, hw⟩ := ways_ok ok σ sm hsm
  have hperm : ks'.Perm ks := (List.perm_ext_iff_of_nodup hk.good.nd e3.1).mpr fun g => by
    rw [hk.iff, e4]
    constructor
    · intro h
      have := hk.good.lt g ((hk.iff g).mpr h)
      exact ⟨by lia, h⟩
    · exact fun h => h.2
  subst e5
  have hret : op2 deqD (xcall Fways_into (lcons (xcall F_law_body (lcons (xname 0) lnil)) (lcons (xname 1) lnil))) (bname 2) [.frz (encScene s), .frz (encL sm), .own (encF ks (cntD (wcnt s sm))), j3, j4] σ = some (.bool true, σ) :=
    op2_eq ((xcall_eq (lcons_eq ((xcall_eq rfl).trans (body_ok ok σ)) (lcons_eq rfl rfl))).trans hw) rfl (deq_encF hperm)
  refine kGG ?_; clear kGG
  exact fdef_eq rfl (show f_law_ways_right _ _ = _ from by
    unfold f_law_ways_right
    exact seq1 rfl (seq1 (sfor_eq (irange_eq (len_scene ok rfl) (by lia)) e) (sseq_ret (sret_eq hret))))
end Mine
end
section
open PySem PySem.W
set_option linter.unusedVariables false
namespace Mine
/-! ## the draws -/
theorem mulD_r {a b : Int} (h : small b = true) : mulD (.int a) (.int b) = some (.int (a * b)) := by
  show (if small a || small b then some (D.int (a * b)) else none) = _
  rw [h, Bool.or_true, if_pos rfl]
theorem modD_ok {a b : Int} (h0 : b ≠ 0) (h : small b = true) : modD (.int a) (.int b) = some (.int (a.fmod b)) := by
  show (if b ≠ 0 ∧ small b then some (D.int (a.fmod b)) else none) = _
  rw [if_pos ⟨h0, h⟩]
theorem fdivD_ok {a b : Int} (h0 : b ≠ 0) (h : small b = true) : fdivD (.int a) (.int b) = some (.int (a.fdiv b)) := by
  show (if b ≠ 0 ∧ small b then some (D.int (a.fdiv b)) else none) = _
  rw [if_pos ⟨h0, h⟩]
theorem small_of {a : Int} (h0 : 0 ≤ a) (h : a < 2 ^ 63) : small a = true := by
  unfold small
  rw [decide_eq_true_eq]
  lia
theorem fmod_nat {a : Int} {top : Nat} (h : 0 < top) : ∃ d : Nat, d < top ∧ a.fmod (top : Int) = (d : Int) := by
  have h1 := Int.fmod_nonneg_of_pos a (b := (top : Int)) (by lia)
  have h2 := Int.fmod_lt_of_pos a (b := (top : Int)) (by lia)
  exact ⟨(a.fmod (top : Int)).toNat, (Int.toNat_lt h1).mpr h2, (Int.toNat_of_nonneg h1).symm⟩
theorem ssrc_eq {i j : Nat} {f : EX} {ρ : Vars} {σ σ1 : Src} {a : Int} (hf : f ρ σ = some (.int a, σ1)) (h : ρ[i]? = some (.frz .src)) : ssrc i j f ρ σ = some (.next, ρ, if j = 0 then (a, σ1.2) else (σ1.1, a)) := by
  unfold ssrc; rw [hf]; dsimp only; rw [h]
theorem take_ok (top : Nat) (h0 : 0 < top) (h1 : top ≤ 1000) (σ : Src) : ∃ d σ', d < top ∧ F_law_take [.src, encN top] σ = some (encN d, σ') := by
  have hs : small (top : Int) = true := small_of (by lia) (by lia)
  have hz : (top : Int) ≠ 0 := by lia
  have hg : t2 gtI (xsub (bname 0) (xk (.int 0))) (xk (.int 0)) (vars0 [.src, encN top] 1) σ = some (decide (σ.1 > 0), σ) := t2_eq (d := .int σ.1) rfl rfl rfl
  by_cases hp : σ.1 > 0
  · rw [decide_eq_true hp] at hg
    obtain ⟨d, hd, hdv⟩ := fmod_nat (a := σ.1) h0
    refine ⟨d, (σ.1.fdiv (top : Int), σ.2), hd, ?_⟩
    have hset : sset 2 (cfrz (op2 modD (op1 intD (xsub (bname 0) (xk (.int 0)))) (bname 1))) (vars0 [.src, encN top] 1) σ = some (.next, [.frz .src, .frz (encN top), .frz (encN d)], σ) :=
      sset_eq (cfrz_eq (op2_eq (d := .int σ.1) (e := encN top) rfl rfl ((modD_ok hz hs).trans (by rw [hdv]; rfl))))
    have hsrc : ssrc 0 0 (op2 fdivD (xsub (bname 0) (xk (.int 0))) (bname 1)) [.frz .src, .frz (encN top), .frz (encN d)] σ = some (.next, [.frz .src, .frz (encN top), .frz (encN d)], (σ.1.fdiv (top : Int), σ.2)) :=
      ssrc_eq (op2_eq (d := .int σ.1) (e := encN top) rfl rfl (fdivD_ok hz hs)) rfl
    exact fdef_eq rfl (show f_law_take _ _ = _ from by
      unfold f_law_take
      exact sseq_ret (if_t hg (seq1 hset (seq1 hsrc (sseq_ret rfl)))))
  · rw [decide_eq_false hp] at hg
    generalize hb : (σ.2 * 39373 + 7).fmod 2147483647 = b
    generalize hc : ((b * b).fmod 2147483629).fdiv 32 = c
    obtain ⟨d, hd, hdv⟩ := fmod_nat (a := c) h0
    refine ⟨d, (σ.1, b), hd, ?_⟩
    have hsrc : ssrc 0 1 (op2 modD (op1 intD (op2 addD (op2 mulD (xsub (bname 0) (xk (.int 1))) (xk (.int 39373))) (xk (.int 7)))) (xk (.int 2147483647))) (vars0 [.src, encN top] 1) σ = some (.next, [.frz .src, .frz (encN top), .un], (σ.1, b)) :=
      ssrc_eq (j := 1) (σ1 := σ) (op2_eq (d := .int (σ.2 * 39373 + 7)) (e := .int 2147483647) (op1_eq (d := .int (σ.2 * 39373 + 7)) (op2_eq (d := .int (σ.2 * 39373)) (e := .int 7) (op2_eq (d := .int σ.2) (e := .int 39373) rfl rfl (mulD_r (by decide))) rfl rfl) rfl) rfl ((modD_ok (by decide) (by decide)).trans (by rw [hb]))) rfl
    have hbs : small b = true := by
      have h1 := Int.fmod_nonneg_of_pos (σ.2 * 39373 + 7) (b := 2147483647) (by lia)
      have h2 := Int.fmod_lt_of_pos (σ.2 * 39373 + 7) (b := 2147483647) (by lia)
      rw [hb] at h1 h2
      exact small_of h1 (by lia)
    have hret : sret (op2 modD (op1 intD (op2 fdivD (op2 modD (op1 intD (op2 mulD (xsub (bname 0) (xk (.int 1))) (xsub (bname 0) (xk (.int 1))))) (xk (.int 2147483629))) (xk (.int 32)))) (bname 1)) [.frz .src, .frz (encN top), .un] (σ.1, b) = some (.ret (encN d), [.frz .src, .frz (encN top), .un], (σ.1, b)) :=
      sret_eq (op2_eq (d := .int c) (e := encN top) (op1_eq (d := .int c) (op2_eq (d := .int ((b * b).fmod 2147483629)) (e := .int 32) (op2_eq (d := .int (b * b)) (e := .int 2147483629) (op1_eq (d := .int (b * b)) (op2_eq (d := .int b) (e := .int b) rfl rfl (mulD_r hbs)) rfl) rfl (modD_ok (by decide) (by decide))) rfl ((fdivD_ok (by decide) (by decide)).trans (by rw [hc]))) rfl) rfl ((modD_ok hz hs).trans (by rw [hdv]; rfl)))
    exact fdef_eq rfl (show f_law_take _ _ = _ from by
      unfold f_law_take
      exact seq1 (if_f hg rfl) (seq1 hsrc (sseq_ret hret)))
theorem one_ok (ds : List D) (h0 : 0 < ds.length) (h1 : ds.length ≤ 100) (σ : Src) : ∃ d σ', d ∈ ds ∧ F_law_one [.src, .list ds] σ = some (d, σ') := by
  obtain ⟨k, σ', hk, e⟩ := take_ok ds.length h0 (by lia) σ
  refine ⟨ds[k], σ', List.getElem_mem hk, ?_⟩
  have hl : op1 lenD (bname 1) [.frz .src, .frz (.list ds)] σ = some (encN ds.length, σ) := op1_eq (d := .list ds) rfl (by
    show (if ds.length ≤ 1000 then some (D.int (ds.length : Int)) else none) = _
    rw [if_pos (by lia)]; rfl)
  have hx : xsub (bname 1) (xcall F_law_take (lcons (xname 0) (lcons (op1 lenD (bname 1)) lnil))) [.frz .src, .frz (.list ds)] σ = some (ds[k], σ') :=
    xsub_eq (d := .list ds) rfl ((xcall_eq (lcons_eq rfl (lcons_eq hl rfl))).trans e) (by
      show idx ds ((k : Nat) : Int) = _
      rw [idx_nat _ _ (by lia), List.getElem?_eq_getElem hk])
  exact fdef_eq rfl (show f_law_one _ _ = _ from by
    unfold f_law_one
    exact sseq_ret (sret_eq hx))
/-- a comprehension that draws -/
theorem compL_draw {α : Type} (enc : α → D) (P : α → Prop) {cb : CB} {t : TX} {f : EX} {ρc : Vars} : ∀ (ds : List D) (σ : Src), (∀ d ∈ ds, ∃ ls, cb d = some ls ∧ ∀ σ, t (ρc ++ ls.map .frz) σ = some (true, σ) ∧ ∃ a σ', P a ∧ f (ρc ++ ls.map .frz) σ = some (enc a, σ')) →
    ∃ (l : List α) (σ' : Src), compL cb t f ρc ds σ = some (l.map enc, σ') ∧ l.length = ds.length ∧ ∀ a ∈ l, P a
  | [], σ, _ => ⟨[], σ, rfl, rfl, fun _ h => nomatch h⟩
  | d :: ds, σ, h => by
    refine gen ?_; intro GG kGG
    obtain ⟨ls, h1, h2⟩ := h d (.head _)
    obtain ⟨h3, a, σ1, h4, h5⟩ := h2 σ
    obtain ⟨l, σ2, h6, h7, h8⟩ := compL_draw enc P ds σ1 fun d hd => h d (.tail _ hd)
    refine kGG ?_; clear kGG
    refine ⟨a :: l, σ2, compL_true h1 h3 h5 h6, by simp [h7], fun b hb => ?_⟩
    rcases List.mem_cons.mp hb with rfl | hb
    · exact h4
    · exact h8 b hb
theorem compL_some {t : TX} {ρc : Vars} {f : EX} : ∀ (l : List Nat) (σ : Src), (∀ x σ, ∃ b σ', t (ρc ++ [encN x].map .frz) σ = some (b, σ')) → (∀ x σ, f (ρc ++ [encN x].map .frz) σ = some (encN x, σ)) →
    ∃ (l' : List Nat) (σ' : Src), compL cbname t f ρc (l.map encN) σ = some (l'.map encN, σ') ∧ l'.length ≤ l.length ∧ ∀ x ∈ l', x ∈ l
  | [], σ, _, _ => ⟨[], σ, rfl, Nat.le_refl _, fun _ h => h⟩
  | x :: l, σ, h1, h2 => by
    obtain ⟨b, σ1, hb⟩ := h1 x σ
    obtain ⟨l', σ2, e, e1, e2⟩ := compL_some l σ1 h1 h2
    cases b with
    | true =>
      refine ⟨x :: l', σ2, compL_true rfl hb (h2 x σ1) e, by simp; lia, fun y hy => ?_⟩
      rcases List.mem_cons.mp hy with rfl | hy
      · exact .head _
      · exact .tail _ (e2 y hy)
    | false => exact ⟨l', σ2, compL_false rfl hb e, by simp; lia, fun y hy => .tail _ (e2 y hy)⟩
structure GoodB (m : Nat) (b : Blk) : Prop where
  lines : b.lines ≤ 2
  few : b.t.goals.length ≤ 4
  lt : ∀ g, some g ∈ b.t.goals → g < m
noncomputable def wordsD : List D := [.str "goto", .str "goto", .str "goto", .str "switch", .str "switch", .str "switch", .str "return", .str "call", .str "drop", .str "assert", .str "panic", .str "unreachable"]
noncomputable def wordsB : List D := [.str "goto", .str "goto", .str "goto", .str "switch", .str "switch", .str "switch", .str "return", .str "call", .str "drop", .str "assert", .str "panic"]
noncomputable def lbSw : SF := (sseq (sset 6 (cown (xcomp [0, 1, 5] (irange (xcall F_law_take (lcons (xname 0) (lcons (xk (.int 4)) lnil)))) cbname tt (xif (t2 gtI (xcall F_law_take (lcons (xname 0) (lcons (xk (.int 3)) lnil))) (xk (.int 0))) (xname 2) (xcall F_law_take (lcons (xname 0) (lcons (xname 1) lnil)))))))
  (sseq (sret (xtup (lcons (xname 2) (lcons (xname 4) (lcons (op1 tupD (op2 addD (bname 6) (xlist (lcons (xcall F_law_one (lcons (xname 0) (lcons (xlist (lcons (xk .none) (lcons (xname 5) (lcons (xcall F_law_take (lcons (xname 0) (lcons (xname 1) lnil))) lnil)))) lnil))) lnil)))) lnil)))))
  snil))
noncomputable def lbEnd : SF := (sseq (sif (t2 eqD (bname 4) (xk (.str "switch"))) lbSw snil)
  (sseq (sif (t2 eqD (bname 4) (xk (.str "call"))) (sseq (sret (xtup (lcons (xname 2) (lcons (xname 4) (lcons (xtup (lcons (xcall F_law_one (lcons (xname 0) (lcons (xlist (lcons (xk .none) (lcons (xname 5) (lcons (xname 5) lnil)))) lnil))) lnil)) lnil)))))
  snil) snil)
  (sseq (sret (xtup (lcons (xname 2) (lcons (xname 4) (lcons (xif (t2 inD (bname 4) (xlist (lcons (xk (.str "goto")) (lcons (xk (.str "drop")) (lcons (xk (.str "assert")) lnil))))) (xtup (lcons (xname 5) lnil)) (xtup lnil)) lnil)))))
  snil)))
theorem sw_ok (m one k : Nat) (h0 : 0 < m) (h1 : m ≤ 5) (hone : one < m) (hk : k ≤ 2) (σ : Src) :
    ∃ b ρ σ', GoodB m b ∧ lbSw [.frz .src, .frz (encN m), .frz (encLines k), .frz (.list wordsB), .frz (.str "switch"), .frz (encN one), .un] σ = some (.ret (encBlk b), ρ, σ') := by
  refine gen ?_; intro GG kGG
  obtain ⟨c, σ1, hc, e1⟩ := take_ok 4 (by lia) (by lia) σ
  have hir : irange (xcall F_law_take (lcons (xname 0) (lcons (xk (.int 4)) lnil))) [.frz .src, .frz (encN m), .frz (encLines k), .frz (.list wordsB), .frz (.str "switch"), .frz (encN one), .un] σ = some ((List.range' 0 c).map encN, σ1) :=
    irange_eq ((xcall_eq rfl).trans e1) (by lia)
  obtain ⟨l, σ2, e2, hl, hlt⟩ := compL_draw encN (fun x => x < m) (cb := cbname) (t := tt) (f := xif (t2 gtI (xcall F_law_take (lcons (xname 0) (lcons (xk (.int 3)) lnil))) (xk (.int 0))) (xname 2) (xcall F_law_take (lcons (xname 0) (lcons (xname 1) lnil)))) (ρc := [.frz .src, .frz (encN m), .frz (encN one)]) ((List.range' 0 c).map encN) σ1 (fun d hd => ⟨[d], rfl, fun σ => ⟨rfl, by
    obtain ⟨a, σa, ha, ea⟩ := take_ok 3 (by lia) (by lia) σ
    have ht : t2 gtI (xcall F_law_take (lcons (xname 0) (lcons (xk (.int 3)) lnil))) (xk (.int 0)) ([.frz .src, .frz (encN m), .frz (encN one)] ++ [d].map .frz) σ = some (decide ((a : Int) > 0), σa) := t2_eq ((xcall_eq rfl).trans ea) rfl rfl
    by_cases q : (a : Int) > 0
    · rw [decide_eq_true q] at ht
      exact ⟨one, σa, hone, xif_t ht rfl⟩
    · rw [decide_eq_false q] at ht
      obtain ⟨x, σx, hx, ex⟩ := take_ok m h0 (by lia) σa
      exact ⟨x, σx, hx, xif_f ht ((xcall_eq rfl).trans ex)⟩⟩⟩)
  have hlc : l.length ≤ 3 := by simp at hl; lia
  have hcomp := xcomp_eq (cap := [0, 1, 5]) (cb := cbname) (t := tt) hir (by simp; lia) rfl e2
  obtain ⟨x, σ3, hx, ex⟩ := take_ok m h0 (by lia) σ2
  obtain ⟨d, σ4, hd, ed⟩ := one_ok [.none, encN one, encN x] (by simp) (by simp) σ3
  obtain ⟨o, ho, hol⟩ : ∃ o : Option Nat, d = encO o ∧ ∀ g, o = some g → g < m := by
    simp only [List.mem_cons, List.not_mem_nil, or_false] at hd
    rcases hd with rfl | rfl | rfl
    · exact ⟨none, rfl, fun g h => nomatch h⟩
    · exact ⟨some one, rfl, fun g h => by cases h; exact hone⟩
    · exact ⟨some x, rfl, fun g h => by cases h; exact hx⟩
  subst ho
  refine kGG ?_; clear kGG
  refine ⟨⟨k, .switch l o⟩, [.frz .src, .frz (encN m), .frz (encLines k), .frz (.list wordsB), .frz (.str "switch"), .frz (encN one), .own (.list (l.map encN))], σ4, ⟨hk, by simp [glG, glS, glC, glD, glA, glR, glP, glU]; lia, fun g hg => ?_⟩, ?_⟩
  · simp only [glG, glS, glC, glD, glA, glR, glP, glU, List.mem_append, List.mem_map, List.mem_singleton] at hg
    rcases hg with ⟨y, hy, e⟩ | hg
    · cases e; exact hlt _ hy
    · exact hol g hg.symm
  · have hone' : xcall F_law_one (lcons (xname 0) (lcons (xlist (lcons (xk .none) (lcons (xname 5) (lcons (xcall F_law_take (lcons (xname 0) (lcons (xname 1) lnil))) lnil)))) lnil)) [.frz .src, .frz (encN m), .frz (encLines k), .frz (.list wordsB), .frz (.str "switch"), .frz (encN one), .own (.list (l.map encN))] σ2 = some (encO o, σ4) :=
      (xcall_eq (lcons_eq rfl (lcons_eq (xlist_eq (lcons_eq rfl (lcons_eq rfl (lcons_eq ((xcall_eq rfl).trans ex) rfl))) (by simp)) rfl))).trans ed
    have hg : op1 tupD (op2 addD (bname 6) (xlist (lcons (xcall F_law_one (lcons (xname 0) (lcons (xlist (lcons (xk .none) (lcons (xname 5) (lcons (xcall F_law_take (lcons (xname 0) (lcons (xname 1) lnil))) lnil)))) lnil))) lnil))) [.frz .src, .frz (encN m), .frz (encLines k), .frz (.list wordsB), .frz (.str "switch"), .frz (encN one), .own (.list (l.map encN))] σ2 = some (encG (Tm.switch l o).goals, σ4) := by
      refine op1_eq (d := .list (l.map encN ++ [encO o])) (op2_eq (d := .list (l.map encN)) rfl (xlist_eq (lcons_eq hone' rfl) (by simp)) ?_) ?_
      · show (if (l.map encN).length + [encO o].length ≤ 1000 then some (D.list (l.map encN ++ [encO o])) else none) = _
        rw [if_pos (by simp; lia)]
      · show (if (l.map encN ++ [encO o]).length ≤ 1000 then some (D.tup (l.map encN ++ [encO o])) else none) = _
        rw [if_pos (by simp; lia)]
        unfold encG Tm.goals
        rw [List.map_append, map_some]
        rfl
    exact seq1 (sset_eq (cown_eq hcomp)) (sseq_ret (sret_eq (xtup_eq (lcons_eq rfl (lcons_eq rfl (lcons_eq hg rfl))) (by simp))))
theorem lines_mul (d : D) (h : d ∈ ([.int 0, .int 0, .int 1, .int 2] : List D)) : ∃ k, k ≤ 2 ∧ mulD (.list [.tup [.str "nop"]]) d = some (encLines k) := by
  simp only [List.mem_cons, List.not_mem_nil, or_false] at h
  rcases h with rfl | rfl | rfl | rfl
  · exact ⟨0, by lia, rfl⟩
  · exact ⟨0, by lia, rfl⟩
  · exact ⟨1, by lia, rfl⟩
  · exact ⟨2, by lia, rfl⟩
theorem block_ok (m : Nat) (h0 : 0 < m) (h1 : m ≤ 5) (σ : Src) : ∃ b σ', GoodB m b ∧ F_law_block [.src, encN m] σ = some (encBlk b, σ') := by
  refine gen ?_; intro GG kGG
  obtain ⟨d1, σ1, hd1, e1⟩ := one_ok [.int 0, .int 0, .int 1, .int 2] (by simp) (by simp) σ
  obtain ⟨k, hk, hm⟩ := lines_mul d1 hd1
  obtain ⟨w, σ2, hw, e2⟩ := one_ok wordsD (by decide) (by decide) σ1
  obtain ⟨one, σ3, hone, e3⟩ := take_ok m h0 (by lia) σ2
  have s1 : sset 2 (cfrz (op2 mulD (xlist (lcons (xtup (lcons (xk (.str "nop")) lnil)) lnil)) (xcall F_law_one (lcons (xname 0) (lcons (xlist (lcons (xk (.int 0)) (lcons (xk (.int 0)) (lcons (xk (.int 1)) (lcons (xk (.int 2)) lnil))))) lnil))))) (vars0 [.src, encN m] 5) σ = some (.next, [.frz .src, .frz (encN m), .frz (encLines k), .un, .un, .un, .un], σ1) :=
    sset_eq (cfrz_eq (op2_eq rfl ((xcall_eq rfl).trans e1) hm))
  have s2 : sset 3 (cfrz (xlist (lcons (xk (.str "goto")) (lcons (xk (.str "goto")) (lcons (xk (.str "goto")) (lcons (xk (.str "switch")) (lcons (xk (.str "switch")) (lcons (xk (.str "switch")) (lcons (xk (.str "return")) (lcons (xk (.str "call")) (lcons (xk (.str "drop")) (lcons (xk (.str "assert")) (lcons (xk (.str "panic")) lnil))))))))))))) [.frz .src, .frz (encN m), .frz (encLines k), .un, .un, .un, .un] σ1 = some (.next, [.frz .src, .frz (encN m), .frz (encLines k), .frz (.list wordsB), .un, .un, .un], σ1) := rfl
  have s3 : sunp [4, 5] (xtup (lcons (xcall F_law_one (lcons (xname 0) (lcons (op2 addD (bname 3) (xlist (lcons (xk (.str "unreachable")) lnil))) lnil))) (lcons (xcall F_law_take (lcons (xname 0) (lcons (xname 1) lnil))) lnil))) [.frz .src, .frz (encN m), .frz (encLines k), .frz (.list wordsB), .un, .un, .un] σ1 = some (.next, [.frz .src, .frz (encN m), .frz (encLines k), .frz (.list wordsB), .frz w, .frz (encN one), .un], σ3) := by
    refine sunp_eq (d := .tup [w, encN one]) (xtup_eq (lcons_eq (σ1 := σ2) ((xcall_eq (ds := [.src, .list wordsD]) (lcons_eq rfl (lcons_eq rfl rfl))).trans e2) (lcons_eq ((xcall_eq rfl).trans e3) rfl)) (by simp)) rfl
  have fin : ∀ {b : Blk} {ρ : Vars} {σ' : Src}, GoodB m b → lbEnd [.frz .src, .frz (encN m), .frz (encLines k), .frz (.list wordsB), .frz w, .frz (encN one), .un] σ3 = some (.ret (encBlk b), ρ, σ') → ∃ b σ', GoodB m b ∧ F_law_block [.src, encN m] σ = some (encBlk b, σ') :=
    fun {b ρ σ'} hb e => ⟨b, σ', hb, fdef_eq rfl (show f_law_block _ _ = _ from by unfold f_law_block; exact seq1 s1 (seq1 s2 (seq1 s3 e)))⟩
  have lt1 : ∀ g, some g ∈ [some one] → g < m := fun g hg => by simp at hg; subst hg; exact hone
  have sw : w = .str "switch" → ∃ b σ', GoodB m b ∧ F_law_block [.src, encN m] σ = some (encBlk b, σ') := by
    rintro rfl
    obtain ⟨b, ρ, σ', g, e⟩ := sw_ok m one k h0 h1 hone hk σ3
    exact fin g (sseq_ret (if_t rfl e))
  have go : w = .str "goto" → ∃ b σ', GoodB m b ∧ F_law_block [.src, encN m] σ = some (encBlk b, σ') := by
    rintro rfl
    exact fin (b := ⟨k, .goto one⟩) ⟨hk, by simp [glG, glS, glC, glD, glA, glR, glP, glU], lt1⟩ (seq1 (if_f rfl rfl) (seq1 (if_f rfl rfl) (sseq_ret rfl)))
  simp only [wordsD, List.mem_cons, List.not_mem_nil, or_false] at hw
  refine kGG ?_; clear kGG
  rcases hw with h | h | h | h | h | h | h | h | h | h | h | h
  · exact go h
  · exact go h
  · exact go h
  · exact sw h
  · exact sw h
  · exact sw h
  · subst h
    exact fin (b := ⟨k, .ret⟩) ⟨hk, by simp [glG, glS, glC, glD, glA, glR, glP, glU], fun g hg => nomatch hg⟩ (seq1 (if_f rfl rfl) (seq1 (if_f rfl rfl) (sseq_ret rfl)))
  · subst h
    refine gen ?_; intro GG kGG
    obtain ⟨d, σ4, hd, ed⟩ := one_ok [.none, encN one, encN one] (by simp) (by simp) σ3
    obtain ⟨o, ho, hol⟩ : ∃ o : Option Nat, d = encO o ∧ ∀ g, o = some g → g < m := by
      simp only [List.mem_cons, List.not_mem_nil, or_false] at hd
      rcases hd with rfl | rfl | rfl
      · exact ⟨none, rfl, fun g h => nomatch h⟩
      · exact ⟨some one, rfl, fun g h => by cases h; exact hone⟩
      · exact ⟨some one, rfl, fun g h => by cases h; exact hone⟩
    subst ho
    refine kGG ?_; clear kGG
    exact fin (b := ⟨k, .call o⟩) ⟨hk, by simp [glG, glS, glC, glD, glA, glR, glP, glU], fun g hg => hol g (List.mem_singleton.mp hg).symm⟩ (seq1 (if_f rfl rfl) (sseq_ret (if_t rfl (sseq_ret (sret_eq (xtup_eq (lcons_eq rfl (lcons_eq rfl (lcons_eq (xtup_eq (lcons_eq ((xcall_eq rfl).trans ed) rfl) (by simp [glG, glS, glC, glD, glA, glR, glP, glU])) rfl))) (by simp)))))))
  · subst h
    exact fin (b := ⟨k, .drop one⟩) ⟨hk, by simp [glG, glS, glC, glD, glA, glR, glP, glU], lt1⟩ (seq1 (if_f rfl rfl) (seq1 (if_f rfl rfl) (sseq_ret rfl)))
  · subst h
    exact fin (b := ⟨k, .assert one⟩) ⟨hk, by simp [glG, glS, glC, glD, glA, glR, glP, glU], lt1⟩ (seq1 (if_f rfl rfl) (seq1 (if_f rfl rfl) (sseq_ret rfl)))
  · subst h
    exact fin (b := ⟨k, .panic⟩) ⟨hk, by simp [glG, glS, glC, glD, glA, glR, glP, glU], fun g hg => nomatch hg⟩ (seq1 (if_f rfl rfl) (seq1 (if_f rfl rfl) (sseq_ret rfl)))
  · subst h
    exact fin (b := ⟨k, .unr⟩) ⟨hk, by simp [glG, glS, glC, glD, glA, glR, glP, glU], fun g hg => nomatch hg⟩ (seq1 (if_f rfl rfl) (seq1 (if_f rfl rfl) (sseq_ret rfl)))
end Mine
end
section
open PySem PySem.W
set_option linter.unusedVariables false
namespace Mine
theorem xmax_eq {f g : EX} {ρ : Vars} {σ : Src} {a b : Int} (h1 : f ρ σ = some (.int a, σ)) (h2 : g ρ σ = some (.int b, σ)) : xmax f g ρ σ = some (.int (if b > a then b else a), σ) := by
  unfold xmax; rw [h1]; dsimp only; rw [h2]
theorem nseq_eq {f : SF} {h : EX} {ρ ρ' : Vars} {σ σ1 : Src} {r : Option (D × Src)} (e : f ρ σ = some (.next, ρ', σ1)) (h2 : h ρ' σ1 = r) : nseq f h ρ σ = r := by
  unfold nseq; rw [e]; exact h2
theorem pool_tail (S : D) (c : Int) (σ : Src) : ∃ a b, (nseq (sset 3 (cfrz (xmax (op1 intD (bname 2)) (op1 intD (op2 subD (op1 negD (xk (.int 1))) (bname 2))))))
  (nseq (sset 4 (cfrz (op2 modD (op1 intD (op2 mulD (op2 addD (op2 addD (op2 addD (op2 modD (op1 intD (bname 3)) (xk (.int 2147483629))) (op2 mulD (op2 mulD (xk (.int 7919)) (bname 1)) (bname 1))) (op2 mulD (xk (.int 31)) (bname 1))) (xk (.int 17))) (xk (.int 48271)))) (xk (.int 2147483647)))))
  (xlist (lcons (op2 mulD (bname 3) (op1 intD (op2 geI (bname 3) (op2 powD (xk (.int 10)) (xk (.int 18)))))) (lcons (xname 4) lnil))))) [.frz S, .frz (.int 0), .frz (.int c), .un, .un] σ = some (.list [.int a, .int b], σ) := by
  generalize hb : (if -1 - c > c then -1 - c else c) = b
  refine ⟨b * (if decide (b ≥ 10 ^ 18) = true then 1 else 0), ((b.fmod 2147483629 + 7919 * 0 * 0 + 31 * 0 + 17) * 48271).fmod 2147483647, ?_⟩
  · refine nseq_eq (ρ' := [.frz S, .frz (.int 0), .frz (.int c), .frz (.int b), .un]) (σ1 := σ) (sset_eq (cfrz_eq ((xmax_eq (a := c) (b := -1 - c) rfl rfl).trans (by rw [hb])))) ?_
    refine nseq_eq (σ1 := σ) (sset_eq (cfrz_eq (op2_eq (op1_eq (op2_eq (d := .int (b.fmod 2147483629 + 7919 * 0 * 0 + 31 * 0 + 17)) (e := .int 48271) (op2_eq (d := .int (b.fmod 2147483629 + 7919 * 0 * 0 + 31 * 0)) (e := .int 17) (op2_eq (d := .int (b.fmod 2147483629 + 7919 * 0 * 0)) (e := .int (31 * 0)) (op2_eq (d := .int (b.fmod 2147483629)) (e := .int (7919 * 0 * 0)) (op2_eq (d := .int b) (e := .int 2147483629) rfl rfl (modD_ok (by decide) (by decide))) (op2_eq (d := .int (7919 * 0)) (e := .int 0) (op2_eq (d := .int 7919) (e := .int 0) rfl rfl (mulD_r (by decide))) rfl (mulD_r (by decide))) rfl) (op2_eq (d := .int 31) (e := .int 0) rfl rfl (mulD_r (by decide))) rfl) rfl rfl) rfl (mulD_r (by decide))) rfl) rfl (modD_ok (by decide) (by decide))))) ?_
    refine xlist_eq (lcons_eq (op2_eq (d := .int b) rfl (op1_eq (d := .bool (decide (b ≥ 10 ^ 18))) (op2_eq (d := .int b) (e := .int (10 ^ 18)) rfl (op2_eq (d := .int 10) (e := .int 18) rfl rfl ?_) rfl) rfl) (mulD_r ?_)) (lcons_eq rfl rfl)) (by simp)
    · show (if small 10 ∧ (0 : Int) ≤ 18 ∧ (18 : Int) ≤ 1000 then some (D.int ((10 : Int) ^ (18 : Int).toNat)) else none) = _
      rw [if_pos ⟨by decide, by decide, by decide⟩]
      rfl
    · split <;> decide
theorem pool_ok (ns : List Int) (hl : ns.length ≤ 63) (σ : Src) : ∃ a b, F_law_pool [.list (ns.map .int), .int 0] σ = some (.list [.int a, .int b], σ) := by
  have hlen : op1 lenD (bname 0) [.frz (.list (ns.map .int)), .frz (.int 0), .frz (.int 0), .un, .un] σ = some (.int (ns.length : Int), σ) := op1_eq (d := .list (ns.map .int)) rfl (by
    show (if (ns.map D.int).length ≤ 1000 then some (D.int ((ns.map D.int).length : Int)) else none) = _
    rw [List.length_map, if_pos (by lia)])
  have ht : t2 ltI (bname 1) (op1 lenD (bname 0)) [.frz (.list (ns.map .int)), .frz (.int 0), .frz (.int 0), .un, .un] σ = some (decide ((0 : Int) < (ns.length : Int)), σ) := t2_eq (d := .int 0) rfl hlen rfl
  have hsif : ∃ c, sif (t2 ltI (bname 1) (op1 lenD (bname 0))) (sseq (sset 2 (cfrz (xsub (bname 0) (bname 1)))) snil) snil [.frz (.list (ns.map .int)), .frz (.int 0), .frz (.int 0), .un, .un] σ = some (.next, [.frz (.list (ns.map .int)), .frz (.int 0), .frz (.int c), .un, .un], σ) := by
    cases ns with
    | nil => exact ⟨0, if_f ht rfl⟩
    | cons x xs =>
      refine ⟨x, if_t (σ1 := σ) ?_ rfl⟩
      rw [ht, decide_eq_true (by simp)]
  obtain ⟨c, hc⟩ := hsif
  obtain ⟨a, b, e⟩ := pool_tail (.list (ns.map .int)) c σ
  refine ⟨a, b, ?_⟩
  show (if [D.list (ns.map .int), .int 0].length = 2 then f_pool (vars0 [.list (ns.map .int), .int 0] 3) σ else none) = _
  rw [if_pos (show [D.list (ns.map .int), .int 0].length = 2 from rfl)]
  unfold f_pool
  exact nseq_eq rfl (nseq_eq hc e)
theorem law1_ok (ns : List Int) (hl : ns.length ≤ 63) (σ : Src) : ∃ a b, fLaw1 (vars0 [.list (ns.map .int)] 7) σ = some (.next, [.frz (.list (ns.map .int)), .frz cpD, .own (.list [.int a, .int b]), .un, .un, .un, .un, .un], σ) := by
  obtain ⟨a, b, e⟩ := pool_ok ns hl σ
  refine ⟨a, b, ?_⟩
  have t1 : t2 neD (xcall Fplain_switch (lcons (xtup (lcons (xk (.str "switch")) (lcons (xname 1) (lcons (xtup (lcons (xtup (lcons (xk (.int 0)) (lcons (xk (.int 4)) lnil))) (lcons (xtup (lcons (xk (.int 1)) (lcons (xk (.int 4)) lnil))) lnil))) (lcons (xk .none) lnil))))) lnil)) (xtup (lcons (xk (.str "switch")) (lcons (xname 1) (lcons (xtup (lcons (xtup (lcons (xk (.int 0)) (lcons (xk (.int 4)) lnil))) (lcons (xtup (lcons (xk (.int 1)) (lcons (xk (.int 4)) lnil))) lnil))) (lcons (xk .none) lnil)))))
      [.frz (.list (ns.map .int)), .frz cpD, .un, .un, .un, .un, .un, .un] σ = some (false, σ) :=
    t2_eq (d := encT (.switch [4, 4] none)) (e := encT (.switch [4, 4] none)) ((xcall_eq (ds := [encT (.switch [4, 4] none)]) rfl).trans (plain_ok (.switch [4, 4] none) σ (by simp [glG, glS, glC, glD, glA, glR, glP, glU]))) rfl (neD_refl (okD_T 11 _))
  have t2' : t2 neD (xcall Fplain_switch (lcons (xtup (lcons (xk (.str "switch")) (lcons (xname 1) (lcons (xtup (lcons (xtup (lcons (xk (.int 0)) (lcons (xk (.int 4)) lnil))) lnil)) (lcons (xk (.int 4)) lnil))))) lnil)) (xtup (lcons (xk (.str "goto")) (lcons (xk (.int 4)) lnil)))
      [.frz (.list (ns.map .int)), .frz cpD, .un, .un, .un, .un, .un, .un] σ = some (false, σ) :=
    t2_eq (d := encT (.goto 4)) (e := encT (.goto 4)) ((xcall_eq (ds := [encT (.switch [4] (some 4))]) rfl).trans (plain_ok (.switch [4] (some 4)) σ (by simp [glG, glS, glC, glD, glA, glR, glP, glU]))) rfl (neD_refl (okD_T 11 _))
  have s4 : sset 2 (cnew F_law_pool (lcons (xname 0) (lcons (xk (.int 0)) lnil))) [.frz (.list (ns.map .int)), .frz cpD, .un, .un, .un, .un, .un, .un] σ = some (.next, [.frz (.list (ns.map .int)), .frz cpD, .own (.list [.int a, .int b]), .un, .un, .un, .un, .un], σ) := by
    refine sset_eq ?_
    show (match F_law_pool [.list (ns.map .int), .int 0] σ with | some (d, σ) => some (Cell.own d, σ) | none => none) = _
    rw [e]
  unfold fLaw1
  exact seq1 rfl (seq1 (if_f t1 rfl) (seq1 (if_f t2' rfl) (seq1 s4 rfl)))
theorem okD_LL (R : List (List Nat)) : okD 16 (encLL R) = true := by
  show okDs 15 (R.map encL) = true
  induction R with
  | nil => rfl
  | cons r R ih =>
    rw [List.map_cons, okDs, ih]
    show (okDs 14 (r.map encN) && true) = true
    rw [okDs_encN]
    rfl
theorem law2_ok (S T : D) (σ : Src) : ∃ ρ' σ', fLaw2 [.frz S, .frz T, .frz .src, .un, .un, .un, .un, .un] σ = some (.ret (.bool true), ρ', σ') := by
  obtain ⟨c, σ1, hc, e1⟩ := take_ok 4 (by lia) (by lia) σ
  have s3 : sset 3 (cfrz (op2 addD (xk (.int 2)) (xcall F_law_take (lcons (xname 2) (lcons (xk (.int 4)) lnil))))) [.frz S, .frz T, .frz .src, .un, .un, .un, .un, .un] σ = some (.next, [.frz S, .frz T, .frz .src, .frz (encN (2 + c)), .un, .un, .un, .un], σ1) :=
    sset_eq (cfrz_eq (op2_eq (d := .int 2) (e := encN c) (r := encN (2 + c)) rfl ((xcall_eq rfl).trans e1) rfl))
  generalize hm : 2 + c = m at s3
  refine gen ?_; intro GG kGG
  obtain ⟨s, σ2, e2, hl, hg⟩ := compL_draw encBlk (GoodB m) (cb := cbname) (t := tt) (f := xcall F_law_block (lcons (xname 0) (lcons (xname 1) lnil))) (ρc := [.frz .src, .frz (encN m)]) ((List.range' 0 m).map encN) σ1 (fun d hd => ⟨[d], rfl, fun σ => ⟨rfl, by
    obtain ⟨b, σ', hb, e⟩ := block_ok m (by lia) (by lia) σ
    exact ⟨b, σ', hb, (xcall_eq rfl).trans e⟩⟩⟩)
  rw [List.length_map, List.length_range'] at hl
  have ok : OkS s := by
    have hb : ∀ x, tm s x = .ret ∧ ln s x = 0 ∨ ∃ b ∈ s, tm s x = b.t ∧ ln s x = b.lines := by
      intro x
      unfold tm ln
      cases h : s[x]? with
      | none => exact .inl ⟨rfl, rfl⟩
      | some b => exact .inr ⟨b, List.mem_of_getElem? h, rfl, rfl⟩
    refine ⟨by lia, by lia, fun x g h => ?_, fun x => ?_, fun x => ?_⟩
    · rcases hb x with ⟨h1, _⟩ | ⟨b, hbm, h1, _⟩
      · rw [h1] at h; cases h
      · rw [h1] at h; rw [hl]; exact (hg b hbm).lt g h
    · rcases hb x with ⟨h1, _⟩ | ⟨b, hbm, h1, _⟩
      · rw [h1]; simp [glG, glS, glC, glD, glA, glR, glP, glU]
      · rw [h1]; exact (hg b hbm).few
    · rcases hb x with ⟨_, h1⟩ | ⟨b, hbm, _, h1⟩
      · lia
      · rw [h1]; exact (hg b hbm).lines
  have s4 : sset 4 (cown (xcomp [2, 3] (irange (xname 3)) cbname tt (xcall F_law_block (lcons (xname 0) (lcons (xname 1) lnil))))) [.frz S, .frz T, .frz .src, .frz (encN m), .un, .un, .un, .un] σ1 = some (.next, [.frz S, .frz T, .frz .src, .frz (encN m), .own (encScene s), .un, .un, .un], σ2) :=
    sset_eq (cown_eq (xcomp_eq (irange_eq (n := m) rfl (by lia)) (by simp; lia) rfl e2))
  obtain ⟨sm, σ3, e3, hsl, hsm⟩ := compL_some (t := t2 gtI (xcall F_law_take (lcons (xname 0) (lcons (xk (.int 3)) lnil))) (xk (.int 0))) (ρc := [.frz .src]) (f := xname 1) (List.range' 0 m) σ2 (fun x σ => by
    obtain ⟨a, σa, ha, ea⟩ := take_ok 3 (by lia) (by lia) σ
    exact ⟨_, σa, t2_eq ((xcall_eq rfl).trans ea) rfl rfl⟩) (fun x σ => rfl)
  rw [List.length_range'] at hsl
  have s5 : sset 5 (cown (xcomp [2] (irange (xname 3)) cbname (t2 gtI (xcall F_law_take (lcons (xname 0) (lcons (xk (.int 3)) lnil))) (xk (.int 0))) (xname 1))) [.frz S, .frz T, .frz .src, .frz (encN m), .own (encScene s), .un, .un, .un] σ2 = some (.next, [.frz S, .frz T, .frz .src, .frz (encN m), .own (encScene s), .own (encL sm), .un, .un], σ3) :=
    sset_eq (cown_eq (xcomp_eq (irange_eq (n := m) rfl (by lia)) (by simp; lia) rfl e3))
  have hsmlt : ∀ x ∈ sm, x < s.length := fun x hx => by
    have := hsm x hx
    simp at this
    lia
  have t6 : tor (tnot (tval (xcall F_law_threads_right (lcons (xname 4) lnil)))) (tnot (tval (xcall F_law_ways_right (lcons (xname 4) (lcons (xname 5) lnil))))) [.frz S, .frz T, .frz .src, .frz (encN m), .frz (encScene s), .frz (encL sm), .un, .un] σ3 = some (false, σ3) :=
    tor_bb (a := false) (b := false) (tnot_eq (a := true) (tval_eq ((xcall_eq rfl).trans (threads_ok ok σ3)))) (tnot_eq (a := true) (tval_eq ((xcall_eq rfl).trans (ways_right_ok ok σ3 sm hsmlt (by lia)))))
  obtain ⟨V, fd⟩ := found_bfs ok
  have hcome := come_ok ok σ3
  have hmet := met_ok ok fd σ3
  obtain ⟨R, hR, hch⟩ := chains_ok ok fd.good fd.eok σ3 hcome
  obtain ⟨R', hR', hlr⟩ := lrows_ok ok fd.good fd.eok σ3
  have hRR := hR.uniq hR'
  subst hRR
  refine kGG ?_; clear kGG
  generalize bfs s s.length 0 [0] = q at *
  have s7 : spar [6, 7] (lccons (cfrz (xcall F_law_body (lcons (xname 4) lnil))) (lccons (cfrz (xcall F_law_met (lcons (xname 4) lnil))) lcnil)) [.frz S, .frz T, .frz .src, .frz (encN m), .frz (encScene s), .frz (encL sm), .un, .un] σ3 =
      some (.next, [.frz S, .frz T, .frz .src, .frz (encN m), .frz (encScene s), .frz (encL sm), .frz (encBody s), .frz (encL q)], σ3) := by
    have h1 : cfrz (xcall F_law_body (lcons (xname 4) lnil)) [.frz S, .frz T, .frz .src, .frz (encN m), .frz (encScene s), .frz (encL sm), .un, .un] σ3 = some (.frz (encBody s), σ3) := cfrz_eq ((xcall_eq rfl).trans (body_ok ok σ3))
    have h2 : cfrz (xcall F_law_met (lcons (xname 4) lnil)) [.frz S, .frz T, .frz .src, .frz (encN m), .frz (encScene s), .frz (encL sm), .un, .un] σ3 = some (.frz (encL q), σ3) := cfrz_eq ((xcall_eq rfl).trans hmet)
    unfold spar lccons
    rw [h1]
    dsimp only
    rw [h2]
    rfl
  have h8 : op2 eqD (xcall Fcome_to (lcons (xname 6) lnil)) (bname 7) [.frz S, .frz T, .frz .src, .frz (encN m), .frz (encScene s), .frz (encL sm), .frz (encBody s), .frz (encL q)] σ3 = some (.bool true, σ3) :=
    op2_eq ((xcall_eq rfl).trans hcome) rfl (by rw [eqD_encL]; simp)
  have h9 : op2 eqD (xcall Fchains (lcons (xname 6) lnil)) (xcall F_law_rows (lcons (xname 4) (lcons (xname 7) lnil))) [.frz S, .frz T, .frz .src, .frz (encN m), .frz (encScene s), .frz (encL sm), .frz (encBody s), .frz (encL q)] σ3 = some (.bool true, σ3) :=
    op2_eq ((xcall_eq rfl).trans hch) ((xcall_eq rfl).trans hlr) (eqD_refl (okD_LL R))
  exact ⟨_, σ3, show fLaw2 _ _ = _ from by
    unfold fLaw2
    exact seq1 s3 (seq1 s4 (seq1 s5 (xsetR rfl (xsetR rfl (seq1 (if_f t6 rfl) (seq1 s7 (sseq_ret (sret_eq (xand_t h8 h9)))))))))⟩
end Mine
end
section
open PySem PySem.Calls PySem.W PyProof.Rows
set_option maxHeartbeats 4000000
set_option linter.unusedVariables false
namespace Mine
theorem ok_of {prog : Program} {w : World} {z : Heap} {q : Option Addr} {os : OsState} (hX : (hd.heap_39 w.params).In z) (hT : ∃ p loose mg mb, TopRead p loose mg mb z) (hsys : ∃ o, z.get? sysModules = some o) (hq : ∀ a, q = some a → z.get? a = none) : (mkC prog w z q os).Ok where
  X := hX
  T := hT
  qh := hq
  sys := hsys
  cls := ⟨_, rfl, rfl⟩
  ga := rfl
  no := by
    intro x hx
    simp only [bodyNames, List.mem_cons, List.not_mem_nil, or_false] at hx
    rcases hx with rfl | rfl | rfl | rfl | rfl <;> rfl
theorem reps_of {c : Cx} {P : Params} {h z : Heap} : ∀ {ns : List Int} {vs : List Value}, WellAll P h vs (ofPys (ns.map .int)) → RepL c z vs (ns.map .int)
  | [], _, k => by cases k; exact .nil
  | n :: ns, vs, k => by
    have k' : WellAll P h vs (.int n :: ofPys (ns.map .int)) := k
    cases k' with
    | cons k1 k2 =>
      cases k1
      exact .cons (.int n _) (reps_of k2)
/-- the law's frame, as the head leaves it -/
structure Start (w : World) (z : Heap) (s : Shared) (env : Env) (ns : List Int) : Prop where
  X : (hd.heap_39 w.params).In z
  T : ∃ p loose mg mb, TopRead p loose mg mb z
  sys : ∃ o, z.get? sysModules = some o
  head : CodeHd z 119 115
  blt : ∃ mg, z.Ns mainGlobals mg ∧ z.BuiltinsAt mg 115
  gens : s.gens = #[]
  zP : z.get? 115 = none
  tab : s.heap.get? 115 = some (tabObj #[])
  keep : ∀ b o, z.get? b = some o → s.heap.get? b = some o
  scope : env.scope = sc221.1
  glob : env.globals = mainGlobals
  bltn : env.builtins = builtinsNs
  loc : z.get? env.locals = none ∧ env.locals ≠ 115
  nsp : ∃ m a vs h', s.heap.Ns env.locals m ∧ m "script" = some (.ref a) ∧ z.get? a = some { cls := .type "list", data := .seq vs.toArray } ∧ WellAll w.params h' vs (ofPys (ns.map .int))
  cells : ∃ a1 a2 w1 w2, env.cells = [(("many" : Str), a2), (("source" : Str), a1)] ∧ a1 ≠ a2 ∧ z.get? a1 = none ∧ z.get? a2 = none ∧ a1 ≠ 115 ∧ a2 ≠ 115 ∧ s.heap.IsCell a1 w1 ∧ s.heap.IsCell a2 w2
  few : ns.length ≤ 63
theorem kindOf_law {env : Env} (h : env.scope = sc221.1) {x : Str} {k : NameKind} (e : lk sc221.1.names x k = true) : env.kindOf x = some k := by
  unfold Env.kindOf; rw [h]; exact lk_eq e
theorem start_sst {prog : Program} {w : World} {z : Heap} {s : Shared} {env : Env} {ns : List Int} (S : Start w z s env ns) (σ : Src) :
    SSt (mkC prog w z none s.os) z.get? wrL z env s nmL (vars0 [.list (ns.map .int)] 7) (fun _ => 0) σ := by
  refine gen ?_; intro GG kGG
  obtain ⟨a1, a2, w1, w2, hc, h12, z1, z2, n1, n2, c1, c2⟩ := S.cells
  obtain ⟨m, a, vs, h', hm, hms, hl, hw⟩ := S.nsp
  have look2 : ∀ x b, env.cells.lookup x = some b → (x = ("many" : Str) ∧ b = a2) ∨ (x = ("source" : Str) ∧ b = a1) := by
    intro x b e
    rw [hc] at e
    simp only [List.lookup_cons, List.lookup_nil] at e
    cases q1 : x == ("many" : Str) with
    | true => rw [q1] at e; cases e; exact .inl ⟨eq_of_beq q1, rfl⟩
    | false =>
      rw [q1] at e
      cases q2 : x == ("source" : Str) with
      | true => rw [q2] at e; cases e; exact .inr ⟨eq_of_beq q2, rfl⟩
      | false => rw [q2] at e; cases e
  have look : ∀ x b, env.cells.lookup x = some b → b = a1 ∨ b = a2 := fun x b e => by
    rcases look2 x b e with ⟨_, h⟩ | ⟨_, h⟩
    · exact .inr h
    · exact .inl h
  have lm : env.cells.lookup ("many" : Str) = some a2 := by rw [hc]; rfl
  have ls : env.cells.lookup ("source" : Str) = some a1 := by rw [hc]; rfl
  have own0 : ∀ (i : Nat) (k : Cell), (vars0 [.list (ns.map .int)] 7)[i]? = some k → isOwn k = true → False := by
    intro i k e ho
    have hk : k ∈ vars0 [.list (ns.map .int)] 7 := List.mem_of_getElem? e
    simp only [vars0, List.map_cons, List.map_nil, List.mem_append, List.mem_singleton, List.mem_replicate] at hk
    rcases hk with rfl | ⟨_, rfl⟩ <;> cases ho
  refine kGG ?_; clear kGG
  exact {
    v := {
      st := {
        zh := fun b o e => S.keep b o e
        base := .refl _
        gens := S.gens
        os := rfl
        src := fun a e => nomatch e
        tabz := S.zP
        tab := ⟨#[], S.tab, .inl rfl⟩ }
      kind := by rw [S.scope]; exact isFunK_eq rfl
      glob := S.glob
      blt := S.bltn
      fL := ⟨(fun e => nomatch e), S.loc.2⟩
      fC := fun x b e => ⟨(fun e => nomatch e), by rcases look x b e with rfl | rfl <;> assumption⟩
      vars := fun i x k hx hk => by
        match i with
        | 0 =>
          obtain rfl : "script" = x := Option.some.inj hx
          obtain rfl : Cell.frz (.list (ns.map .int)) = k := Option.some.inj hk
          exact ⟨.ref a, .inl ⟨kindOf_law S.scope rfl, m, hm, hms⟩, .list hl (reps_of hw)⟩
        | i + 1 =>
          have hk' : (List.replicate 7 Cell.un)[i]? = some k := hk
          have := List.mem_of_getElem? hk'
          rw [List.mem_replicate] at this
          rw [this.2]
          trivial }
    len := by simp [vars0, nmL]
    keep := S.keep
    gF := fun b o e => ⟨(fun e => nomatch e), fun q => by
      have hz := S.zP
      have e' : z.get? 115 = some o := (show b = 115 from q) ▸ e
      rw [hz] at e'; cases e'⟩
    gL := S.loc.1
    zL := S.loc.1
    ns := ⟨m, hm⟩
    cel := fun x hx => by
      simp only [wrL, List.mem_cons, List.not_mem_nil, or_false] at hx
      rcases hx with rfl | rfl
      · exact ⟨a1, w1, kindOf_law S.scope rfl, ls, z1, z1, c1⟩
      · exact ⟨a2, w2, kindOf_law S.scope rfl, lm, z2, z2, c2⟩
    cx := fun x b e => by
      rcases look x b e with rfl | rfl
      · exact ⟨w1, c1⟩
      · exact ⟨w2, c2⟩
    cd := fun x hx y b hy e e' => by
      rcases look2 x b e with ⟨p1, p2⟩ | ⟨p1, p2⟩ <;> rcases look2 y b e' with ⟨r1, r2⟩ | ⟨r1, r2⟩
      · exact hy (r1.trans p1.symm)
      · exact h12 (r2.symm.trans p2)
      · exact h12 (p2.symm.trans r2)
      · exact hy (r1.trans p1.symm)
    own := fun i k hk ho => (own0 i k hk ho).elim
    od := fun i j k k' hk _ ho _ _ => (own0 i k hk ho).elim }
theorem law_walk {prog : Program} {w : World} {z : Heap} {s : Shared} {env : Env} {ns : List Int} (S : Start w z s env ns) {A : Around} (R : Room A 6) {Q : Flow → Shared → Prop} {E : Value → Shared → Prop}
    (hQ : ∀ s', (∀ b o, z.get? b = some o → s'.heap.get? b = some o) → s'.os = s.os → s'.gens = #[] → (∃ ps, s'.heap.get? 115 = some (tabObj ps)) → Q (.ret (.bool true)) s') :
    wpAny (model prog w) A (execs b221.1 env) Q E s := by
  have ok : (mkC prog w z none s.os).Ok := ok_of S.X S.T S.sys (fun a e => nomatch e)
  have k : Cfg (mkC prog w z none s.os) := ⟨ok, ⟨_, _, _, _, _, rfl⟩, S.head, S.blt⟩
  obtain ⟨a, b, e1⟩ := law1_ok ns S.few (0, 0)
  have T := start_sst (prog := prog) S (0, 0)
  rw [splitL.2.1]
  refine dLaw1 k R S.scope T e1 fun s' z' ad' p T' => ?_
  refine gen ?_; intro GG kGG
  have T2 := T'.toSrc (i := 2) (a := a) (b := b) rfl rfl (fun j ds h => by
    have := List.mem_of_getElem? h
    simp at this)
  have hown := T'.own 2 _ rfl rfl
  have hb := T'.v.st.base
  obtain ⟨_, hz', _⟩ := T'.v.vars 2 _ _ rfl rfl
  have hz : z.get? (ad' 2) = none := by
    cases h : z.get? (ad' 2) with
    | none => rfl
    | some o => rw [hb _ _ h] at hz'; cases hz'
  have k2 : Cfg ((mkC prog w z none s.os).src (ad' 2)) := ⟨ok_of (q := some (ad' 2)) S.X S.T S.sys (fun a e => by cases e; exact hz), ⟨prog, w, z, some (ad' 2), s.os, rfl⟩, S.head, S.blt⟩
  obtain ⟨ρ'', σ'', e2⟩ := law2_ok (.list (ns.map .int)) cpD (a, b)
  refine kGG ?_; clear kGG
  refine wpAny_mono (dLaw2 k2 R S.scope T2 e2) (fun fl s'' hmm => ?_) fun _ _ x => x.elim
  obtain ⟨z'', ad'', p2, T3, r⟩ := hmm
  cases r with
  | ret r =>
    cases r
    refine hQ s'' T3.keep T3.v.st.os T3.v.st.gens ?_
    obtain ⟨ps, h, _⟩ := T3.v.st.tab
    exact ⟨ps, h⟩
end Mine
end
section
open PySem PySem.Calls PySem.W PyProof.Rows
set_option maxHeartbeats 8000000
set_option linter.unusedVariables false
namespace Mine
theorem noImports : importsNone hd.view_39 = true := by decide +kernel
theorem glue {w : World} {s₁ : Shared} {h₁ : Heap} {tk : Nat} {fa a : Addr} {cd : Value} {loose loose' : List Str} {mean : ExcName → Option Value} {mg mb m : Str → Option Value} {ns : List Int} {o1 o2 : Obj} {c1 c2 : Option Value} {name : Str} {ps : Array Value}
    (T : Top hd.view_39 loose mean mg mb s₁.heap) (hT9 : TabsAt [(119, 115)] s₁.heap) (X' : (hd.heap_39 w.params).In (ghostOf s₁.heap [(119, 115)])) (T' : Top topProg loose' mean mg mb (ghostOf s₁.heap [(119, 115)]))
    (F' : Fr (ghostOf s₁.heap [(119, 115)]) s₁.heap.objs.size h₁ m) (N' : News (ghostOf s₁.heap [(119, 115)]) s₁.heap.objs.size h₁ [(s₁.heap.objs.size + 1 + 1, o2), (s₁.heap.objs.size + 1, o1), (115, tabObj ps)])
    (hps : ps = #[]) (w1 : Well w.params s₁.heap (.ref a) (ofPy (.list (ns.map .int)))) (hm : m "script" = some (.ref a)) (hc : CodeHd (ghostOf s₁.heap [(119, 115)]) 119 115) (d2 : o2.data = .cell c2) (d1 : o1.data = .cell c1) (l0 : 115 < s₁.heap.objs.size)
    (hg : s₁.gens = #[]) (hl : ¬ ((63 : Nat) : Int) < (ns.length : Int)) :
    Start w (ghostOf s₁.heap [(119, 115)]) { heap := h₁, gens := s₁.gens, drawn := s₁.drawn, toks := tk, os := s₁.os } (envOfC name sc221.1 s₁.heap.objs.size fa cd) ns := by
  subst hps
  have n1 := N' _ (.head _)
  have n2 := N' _ (.tail _ (.head _))
  have n3 := N' _ (.tail _ (.tail _ (.head _)))
  have hz : ∀ {b : Addr} {o : Obj}, s₁.heap.get? b = some o → b ≠ 115 → (ghostOf s₁.heap [(119, 115)]).get? b = some o := fun e hb => ghost_ne e (by simpa using hb)
  refine {
    X := X'
    T := ⟨_, _, _, _, topRead_of T'⟩
    sys := ?_
    head := hc
    blt := ⟨mg, T'.g, ?_⟩
    gens := hg
    zP := n3.2.2
    tab := n3.1
    keep := F'.keep
    scope := rfl
    glob := rfl
    bltn := rfl
    loc := ⟨Heap.get?_none_of_le F'.above, Nat.ne_of_gt l0⟩
    nsp := ?_
    cells := ⟨s₁.heap.objs.size + 1, s₁.heap.objs.size + 1 + 1, c1, c2, rfl, Nat.ne_of_lt (Nat.lt_succ_self _), n2.2.2, n1.2.2, Nat.ne_of_gt (Nat.lt_succ_of_lt l0), Nat.ne_of_gt (Nat.lt_succ_of_lt (Nat.lt_succ_of_lt l0)), ⟨o1, n2.1, d1⟩, ⟨o2, n1.1, d2⟩⟩
    few := by omega }
  · obtain ⟨mm, ⟨o, _, _, e, _⟩, _⟩ := (T.seer noImports).mods
    exact ⟨o, hz e (by decide)⟩
  · obtain ⟨bm, ob, e1, e2, e3, e4, e5, e6⟩ := T'.bmain
    refine ⟨bm, ob, e1, e2, ?_, ?_, e3, e4, e5, e6⟩
    · rintro rfl
      obtain ⟨o, es, ep, e7, e8, _⟩ := T'.g
      rw [e3] at e7
      cases e7
      rw [e6] at e8
      cases e8
    · rintro rfl
      rw [n3.2.2] at e3
      cases e3
  · cases w1 with
    | list e w1 =>
      have hne : a ≠ 115 := by
        rintro rfl
        have := (hT9 _ (.head _)).2
        rw [e] at this
        cases this
      exact ⟨m, a, _, _, F'.ns, hm, hz e hne, w1⟩
theorem room_law (env : Env) : Room (callerA.deeper env) 6 := ⟨rfl, by show 1 + claimMargin + 1 + 2 * 6 < 900; decide, by show 4 + 3 + 40 * 6 < 9000; decide⟩
theorem post_true (as bs : List WData) : PySem.Challenge.rw_xm0590_01.row.claim.post as (.bool true) bs = true := by
  first | (with_unfolding_all rfl) | kernel_rfl | (simp [OpenRow.claim, RowW.claim]; done)
end Mine
end
open PySem PySem.Calls PySem.W PyProof.Rows
set_option maxHeartbeats 8000000 in
theorem PySem.Challenge.cw_xm0590_01_holds : PySem.Challenge.rw_xm0590_01.Holds :=
  Mine.hd (by
  k_go0
  refine Mine.law_walk (Mine.glue (by assumption) (by assumption) (by assumption) (by assumption) (by assumption) (by assumption) rfl (by assumption) rfl (by assumption) (by assumption) (by assumption) (by assumption) (by assumption) (by assumption)) (Mine.room_law _) ?_
  intro s' h1 h2 h3 h4
  exact ⟨⟨.inl ⟨.bool true, .bool true, [], rfl, fun _ => rfl, .bool true, Mine.post_true _ _, fun _ => ⟨List.nodup_nil, fun a h => nomatch h⟩⟩, h1, h2, h3⟩, h4, trivial⟩)
