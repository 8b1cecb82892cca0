import PyProof.Rows.All
import Wide.All
import OpenK.AllK
import Wide.FinOn
import KE.KPar
import PySem.Challenge.RW_nu0329_01
open PySem PySem.W PyProof.Rows PySem.Calls PySem.Spec
set_option Elab.async false
set_option autoImplicit false
set_option linter.all false
set_option genSizeOf false
section
namespace Mine

inductive AV where
  | none | bool (b : Bool) | int (i : Int) | str (s : Str) | tup (l : List AV) | lst (l : List AV) | obj (i : Nat)
inductive AO where
  | list (l : List AV)
  | inst (C : Addr) (fs : List (Nat × AV))
  | dict (ks : List Int)
  | cell (v : Option AV)
set_option genInjectivity false in
structure ASt where
  env : List (Option AV)
  heap : List AO

noncomputable def atNames : List Str := ["source", "errors", "place", "words", "kind", "value", "rows", "places"]
noncomputable def atName (n : Nat) : Str := atNames.getD n "?"

abbrev Led := List (Addr × Obj)
abbrev tupO (vs : List Value) : Obj := { cls := .type "tuple", data := .seq vs.toArray }
abbrev lstO (vs : List Value) (n : Nat) : Obj := listOf vs.toArray n

mutual
inductive RV (hb : Heap) (ρ : List (List Addr)) (N : Led) : AV → Value → Prop
  | none : RV hb ρ N .none .none
  | bool (b : Bool) : RV hb ρ N (.bool b) (.bool b)
  | int (i : Int) (t : Tok) : RV hb ρ N (.int i) (.int i t)
  | str (s : Str) (t : Tok) : RV hb ρ N (.str s) (.str s t)
  | tup {l : List AV} {a : Addr} {vs : List Value} (h : (a, tupO vs) ∈ N) (r : RVs hb ρ N l vs) : RV hb ρ N (.tup l) (.ref a)
  | lst {l : List AV} {a : Addr} {vs : List Value} {n : Nat} (h : (a, lstO vs n) ∈ N) (ho : a ∉ ρ.flatten) (r : RVs hb ρ N l vs) : RV hb ρ N (.lst l) (.ref a)
  | lstB {l : List AV} {a : Addr} {vs : List Value} (h : hb.IsList a vs.toArray) (r : RVs hb ρ N l vs) : RV hb ρ N (.lst l) (.ref a)
  | obj {i : Nat} {a : Addr} {as : List Addr} (h : ρ[i]? = some (a :: as)) : RV hb ρ N (.obj i) (.ref a)
inductive RVs (hb : Heap) (ρ : List (List Addr)) (N : Led) : List AV → List Value → Prop
  | nil : RVs hb ρ N [] []
  | cons {a : AV} {v : Value} {l : List AV} {vs : List Value} (h : RV hb ρ N a v) (r : RVs hb ρ N l vs) : RVs hb ρ N (a :: l) (v :: vs)
end

theorem RVs.length {hb : Heap} {ρ : List (List Addr)} {N : Led} {l : List AV} {vs : List Value} (h : RVs hb ρ N l vs) : vs.length = l.length := by
  induction l generalizing vs with
  | nil => cases h; rfl
  | cons a l ih => cases h with | cons h r => rw [List.length_cons, List.length_cons, ih r]
theorem RVs.get {hb : Heap} {ρ : List (List Addr)} {N : Led} {l : List AV} {vs : List Value} (h : RVs hb ρ N l vs) {i : Nat} {a : AV} (e : l[i]? = some a) : ∃ v, vs[i]? = some v ∧ RV hb ρ N a v := by
  induction l generalizing vs i with
  | nil => cases e
  | cons b l ih =>
    cases h with
    | cons h r =>
      cases i with
      | zero => cases e; exact ⟨_, rfl, h⟩
      | succ i => exact ih r e
theorem RVs.append {hb : Heap} {ρ : List (List Addr)} {N : Led} {l l' : List AV} {vs vs' : List Value} (h : RVs hb ρ N l vs) (h' : RVs hb ρ N l' vs') : RVs hb ρ N (l ++ l') (vs ++ vs') := by
  induction l generalizing vs with
  | nil => cases h; exact h'
  | cons b l ih => cases h with | cons h r => exact .cons h (ih r)
theorem RVs.split {hb : Heap} {ρ : List (List Addr)} {N : Led} {l l' : List AV} {ws : List Value} (h : RVs hb ρ N (l ++ l') ws) : ∃ vs vs', ws = vs ++ vs' ∧ RVs hb ρ N l vs ∧ RVs hb ρ N l' vs' := by
  induction l generalizing ws with
  | nil => exact ⟨[], ws, rfl, .nil, h⟩
  | cons b l ih =>
    cases h with
    | cons h r =>
      obtain ⟨vs, vs', rfl, h1, h2⟩ := ih r
      exact ⟨_ :: vs, vs', rfl, .cons h h1, h2⟩
theorem RVs.set {hb : Heap} {ρ : List (List Addr)} {N : Led} {l : List AV} {vs : List Value} (h : RVs hb ρ N l vs) {i : Nat} {a : AV} {v : Value} (e : RV hb ρ N a v) : RVs hb ρ N (l.set i a) (vs.set i v) := by
  induction l generalizing vs i with
  | nil => cases h; exact .nil
  | cons b l ih =>
    cases h with
    | cons h r =>
      cases i with
      | zero => exact .cons e r
      | succ i => exact .cons h (ih r)
theorem RVs.take {hb : Heap} {ρ : List (List Addr)} {N : Led} {l : List AV} {vs : List Value} (h : RVs hb ρ N l vs) (n : Nat) : RVs hb ρ N (l.take n) (vs.take n) := by
  induction l generalizing vs n with
  | nil => cases h; cases n <;> exact .nil
  | cons b l ih => cases h with | cons h r => cases n with | zero => exact .nil | succ n => exact .cons h (ih r n)

noncomputable def Frozen (ρ : List (List Addr)) (q : Addr) (o : Obj) : Prop := (∃ vs, o = tupO vs) ∨ ((∃ vs n, o = lstO vs n) ∧ q ∉ ρ.flatten)
set_option genInjectivity false in
structure Grow (ρ ρ' : List (List Addr)) (N N' : Led) : Prop where
  fr : ∀ q o, (q, o) ∈ N → Frozen ρ q o → (q, o) ∈ N'
  ex : ∀ (i : Nat) (x : List Addr), ρ[i]? = some x → ρ'[i]? = some x
  ow : ∀ q o, (q, o) ∈ N → q ∉ ρ.flatten → q ∉ ρ'.flatten

mutual
theorem RV.mono {hb : Heap} {ρ ρ' : List (List Addr)} {N N' : Led} (g : Grow ρ ρ' N N') : ∀ {a : AV} {v : Value}, RV hb ρ N a v → RV hb ρ' N' a v
  | _, _, .none => .none
  | _, _, .bool b => .bool b
  | _, _, .int i t => .int i t
  | _, _, .str s t => .str s t
  | _, _, .tup h r => .tup (g.fr _ _ h (.inl ⟨_, rfl⟩)) (RVs.mono g r)
  | _, _, .lst h ho r => .lst (g.fr _ _ h (.inr ⟨⟨_, _, rfl⟩, ho⟩)) (g.ow _ _ h ho) (RVs.mono g r)
  | _, _, .lstB h r => .lstB h (RVs.mono g r)
  | _, _, .obj h => .obj (g.ex _ _ h)
theorem RVs.mono {hb : Heap} {ρ ρ' : List (List Addr)} {N N' : Led} (g : Grow ρ ρ' N N') : ∀ {l : List AV} {vs : List Value}, RVs hb ρ N l vs → RVs hb ρ' N' l vs
  | _, _, .nil => .nil
  | _, _, .cons h r => .cons (RV.mono g h) (RVs.mono g r)
end

set_option genInjectivity false in
structure FRel (P : Params) (hb : Heap) (ρ : List (List Addr)) (N : Led) (f : Nat × AV) (e : DictEntry) : Prop where
  key : ∃ t, e.key = .str (atName f.1) t
  hash : e.hash = PyData.keyHash P (atName f.1)
  val : RV hb ρ N f.2 e.val
inductive FRels (P : Params) (hb : Heap) (ρ : List (List Addr)) (N : Led) : List (Nat × AV) → List DictEntry → Prop
  | nil : FRels P hb ρ N [] []
  | cons {f : Nat × AV} {e : DictEntry} {fs : List (Nat × AV)} {es : List DictEntry} (h : FRel P hb ρ N f e) (r : FRels P hb ρ N fs es) : FRels P hb ρ N (f :: fs) (e :: es)
theorem FRels.mono {P : Params} {hb : Heap} {ρ ρ' : List (List Addr)} {N N' : Led} (g : Grow ρ ρ' N N') {fs : List (Nat × AV)} {es : List DictEntry} (h : FRels P hb ρ N fs es) : FRels P hb ρ' N' fs es := by
  induction h with
  | nil => exact .nil
  | cons h _ ih => exact .cons ⟨h.key, h.hash, h.val.mono g⟩ ih


set_option genInjectivity false in
structure AttrOk (K : Frag) (C : Addr) (name : Str) : Prop where
  pg : plainGet K C name = true
  hd : hasDictIn K C = true
  fi : ∃ attr, findIn K (.ref C) name = some attr ∧ noGet K attr = true
  se : findIn K (.ref C) "__setattr__" = some (some (.builtin "object.__setattr__"))
  po : plainOver K C = true
  tk : takerIn K C name = some none
set_option genInjectivity false in
structure MethOk (K : Frag) (C : Addr) (name : Str) (f : Addr) : Prop where
  pg : plainGet K C name = true
  fi : findIn K (.ref C) name = some (some (.ref f))
  fn : isFn K (.ref f) = true
  kp : keepIn K (.ref f) = true
set_option genInjectivity false in
structure NewOk (K : Frag) (C f : Addr) : Prop where
  made : makesIn K C = true
  fi : findIn K (.ref C) "__init__" = some (some (.ref f))
  fn : isFn K (.ref f) = true
  kp : keepIn K (.ref C) = true
set_option genInjectivity false in
structure Gl where
  prog : Program
  w : World
  K : Frag
  p : Program
  loose : List Str
  mean : ExcName → Option Value
  mg : Str → Option Value
  mb : Str → Option Value
  ct : List (Addr × Nat)
  mt : List (Str × Addr × Addr)
  ctOk : ∀ p ∈ ct, p.2 < 8 ∧ AttrOk K p.1 (atName p.2)
  mtOk : ∀ q ∈ mt, MethOk K q.2.1 q.1 q.2.2 ∧ q.1 ∉ atNames

set_option genInjectivity false in
structure Cx (G : Gl) where
  A : Around
  qual : Str
  sc : Scope
  fa : Addr
  cd : Value
  outer : List Env
  A₀ : Around
  base : Heap
  h₀ : Heap
  L : Addr
  gens : Array GenState
  drawn : Drawn
  os : OsState
  lv : Nat
  B : Below A₀ base outer h₀
  X : G.K.In h₀
  T : Top G.p G.loose G.mean G.mg G.mb h₀
  cells : List (Str × Addr)
  ci : List (Str × Nat)
  hA : A.frames = some (envX qual sc L fa cd cells :: outer)
  hh : A.handled = none
  hk : sc.kind = .function
  nd : (sc.names.map (·.1)).Nodup
  hd : A.depth + 3 * lv < recursionLimit
  hu : A.units + 40 * lv + 400 < cLine
abbrev Cx.env {G : Gl} (c : Cx G) : Env := envX c.qual c.sc c.L c.fa c.cd c.cells
abbrev Cx.M {G : Gl} (_ : Cx G) : Model := model G.prog G.w

set_option genInjectivity false in
structure Fm where
  as : List AV
  vs : List Value
  xs : Led
abbrev Fm.push (f : Fm) (a : AV) (v : Value) : Fm := ⟨a :: f.as, v :: f.vs, f.xs⟩

noncomputable def RO (G : Gl) (hb : Heap) (ρ : List (List Addr)) (N : Led) (as : List Addr) : AO → Prop
  | .list l => ∃ a vs n, as = [a] ∧ (a, lstO vs n) ∈ N ∧ RVs hb ρ N l vs
  | .inst C fs => ∃ x dx es n, as = [x, dx] ∧ (x, instObj C dx) ∈ N ∧ (dx, dictOf es n) ∈ N ∧ FRels G.w.params hb ρ N fs es ∧ (∀ f ∈ fs, (C, f.1) ∈ G.ct) ∧ fs.length ≤ 100
  | .dict ks => ∃ a o kvs D, as = [a] ∧ (a, o) ∈ N ∧ (a == sysModules) = false ∧ o.IsDictOf (intKind G.prog G.w) kvs ∧ PyProof.V.FlatPairs PyData.int kvs D ∧
      (∀ i, (Spec.lookup (PyData.int i) D).isSome = ks.contains i) ∧ D.length ≤ ks.length
  | .cell v => ∃ a o w, as = [a] ∧ (a, o) ∈ N ∧ o.data = .cell w ∧ (match v with | none => w = none | some x => ∃ y, w = some y ∧ RV hb ρ N x y)
noncomputable def CelOk {G : Gl} (c : Cx G) (ρ : List (List Addr)) (N : Led) : Prop := ∀ (x : Str) (i : Nat), (x, i) ∈ c.ci → ∃ a, c.cells.lookup x = some a ∧ RV c.base ρ N (.obj i) (.ref a)
theorem CelOk.mono {G : Gl} {c : Cx G} {ρ ρ' : List (List Addr)} {N N' : Led} (h : CelOk c ρ N) (g : Grow ρ ρ' N N') : CelOk c ρ' N' := fun x i e => let ⟨a, h1, h2⟩ := h x i e; ⟨a, h1, h2.mono g⟩

set_option genInjectivity false in
structure RelD {G : Gl} (c : Cx G) (st : ASt) (fm : Fm) (s : Shared) (ρ : List (List Addr)) (N : Led) (m : Str → Option Value) : Prop where
  F : Fr c.h₀ c.L s.heap m
  nw : News c.h₀ c.L s.heap N
  nd : (N.map (·.1)).Nodup
  ow : ρ.flatten.Nodup
  len : ρ.length = st.heap.length
  env : ∀ (i : Nat) (a : AV), st.env[i]? = some (some a) → ∃ x v, c.sc.names[i]? = some (x, .local) ∧ m x = some v ∧ RV c.base ρ N a v
  heap : ∀ (i : Nat) (o : AO), st.heap[i]? = some o → ∃ as, ρ[i]? = some as ∧ RO G c.base ρ N as o
  pend : RVs c.base ρ N fm.as fm.vs
  xs : ∀ p ∈ fm.xs, p ∈ N ∧ p.1 ∉ ρ.flatten ∧ p.2.cls ≠ .type "list" ∧ p.2.cls ≠ .type "tuple"
  g : s.gens = c.gens ∧ s.drawn = c.drawn ∧ s.os = c.os
  cel : CelOk c ρ N
noncomputable def Rel {G : Gl} (c : Cx G) (st : ASt) (fm : Fm) (s : Shared) : Prop := ∃ ρ N m, RelD c st fm s ρ N m


theorem upd_mem {d : Addr} {o o' : Obj} {N N' : Led} (u : Upd d o o' N N') : ∀ p ∈ N, p.1 ≠ d → p ∈ N' := by
  obtain ⟨pre, post, rfl, rfl, _, _⟩ := u.split
  intro p hp hd
  rcases List.mem_append.mp hp with h | h
  · exact List.mem_append_left _ h
  · rcases List.mem_cons.mp h with rfl | h
    · exact absurd rfl hd
    · exact List.mem_append_right _ (List.mem_cons_of_mem _ h)
theorem upd_new {d : Addr} {o o' : Obj} {N N' : Led} (u : Upd d o o' N N') : (d, o') ∈ N' := by
  obtain ⟨pre, post, rfl, rfl, _, _⟩ := u.split
  exact List.mem_append_right _ (.head _)
theorem upd_old {d : Addr} {o o' : Obj} {N N' : Led} (u : Upd d o o' N N') : (d, o) ∈ N := by
  obtain ⟨pre, post, rfl, rfl, _, _⟩ := u.split
  exact List.mem_append_right _ (.head _)
theorem upd_keys {d : Addr} {o o' : Obj} {N N' : Led} (u : Upd d o o' N N') : N'.map (·.1) = N.map (·.1) := by
  obtain ⟨pre, post, rfl, rfl, _, _⟩ := u.split
  simp
theorem upd_of {d : Addr} {o o' : Obj} : ∀ {N : Led}, (N.map (·.1)).Nodup → (d, o) ∈ N → ∃ N', Upd d o o' N N'
  | p :: N, nd, h => by
    rw [List.map_cons, List.nodup_cons] at nd
    rcases List.mem_cons.mp h with rfl | h
    · exact ⟨_, .head fun q hq e => nd.1 (e ▸ List.mem_map_of_mem (f := (·.1)) hq)⟩
    · obtain ⟨N', u⟩ := upd_of (o' := o') nd.2 h
      exact ⟨_, .tail (fun e => nd.1 (e ▸ List.mem_map_of_mem (f := (·.1)) h)) u⟩
theorem mem_one {N : Led} (nd : (N.map (·.1)).Nodup) {d : Addr} {o o' : Obj} (h : (d, o) ∈ N) (h' : (d, o') ∈ N) : o = o' := by
  induction N with
  | nil => cases h
  | cons p N ih =>
    rw [List.map_cons, List.nodup_cons] at nd
    rcases List.mem_cons.mp h with rfl | h1
    · rcases List.mem_cons.mp h' with e | h2
      · cases e; rfl
      · exact absurd (List.mem_map_of_mem (f := (·.1)) h2) nd.1
    · rcases List.mem_cons.mp h' with rfl | h2
      · exact absurd (List.mem_map_of_mem (f := (·.1)) h1) nd.1
      · exact ih nd.2 h1 h2

theorem grow_cons {ρ : List (List Addr)} {N : Led} (p : Addr × Obj) : Grow ρ ρ N (p :: N) := ⟨fun _ _ h _ => .tail _ h, fun _ _ h => h, fun _ _ _ h => h⟩
theorem grow_sub {ρ : List (List Addr)} {N N' : Led} (h : ∀ p ∈ N, p ∈ N') : Grow ρ ρ N N' := ⟨fun _ _ h' _ => h _ h', fun _ _ h => h, fun _ _ _ h => h⟩
theorem grow_own {ρ : List (List Addr)} {N N' : Led} {as : List Addr} (hs : ∀ p ∈ N, p ∈ N') (hf : ∀ p ∈ N, p.1 ∉ as) : Grow ρ (ρ ++ [as]) N N' := by
  refine ⟨fun _ _ h _ => hs _ h, fun i x h => ?_, fun q o h ho hq => ?_⟩
  · rw [List.getElem?_append_left (List.getElem?_eq_some_iff.mp h).1]; exact h
  · rw [List.flatten_append, List.mem_append] at hq
    rcases hq with hq | hq
    · exact ho hq
    · exact hf _ h (by simpa using hq)
theorem grow_upd' {ρ : List (List Addr)} {N N' : Led} {d : Addr} {o o' : Obj} (nd : (N.map (·.1)).Nodup) (u : Upd d o o' N N') (h1 : ∀ vs, o ≠ tupO vs) (h2 : ∀ vs n, o = lstO vs n → d ∈ ρ.flatten) : Grow ρ ρ N N' := by
  refine ⟨fun q x h hz => upd_mem u _ h fun e => ?_, fun _ _ h => h, fun _ _ _ h => h⟩
  have e : q = d := e
  subst e
  have : x = o := mem_one nd h (upd_old u)
  subst this
  rcases hz with ⟨vs, hz⟩ | ⟨⟨vs, n, hz⟩, hw⟩
  · exact h1 vs hz
  · exact hw (h2 vs n hz)
theorem grow_upd {ρ : List (List Addr)} {N N' : Led} {d : Addr} {o o' : Obj} (nd : (N.map (·.1)).Nodup) (u : Upd d o o' N N') (h1 : o.cls ≠ .type "tuple") (h2 : o.cls = .type "list" → d ∈ ρ.flatten) : Grow ρ ρ N N' :=
  grow_upd' nd u (fun vs e => h1 (by rw [e])) (fun vs n e => h2 (by rw [e]))

theorem RO.mono {G : Gl} {hb : Heap} {ρ ρ' : List (List Addr)} {N N' : Led} {as : List Addr} {o : AO} (h : RO G hb ρ N as o) (g : Grow ρ ρ' N N') (k : ∀ a ∈ as, ∀ x, (a, x) ∈ N → (a, x) ∈ N') : RO G hb ρ' N' as o := by
  cases o with
  | list l =>
    obtain ⟨a, vs, n, rfl, h1, h2⟩ := h
    exact ⟨a, vs, n, rfl, k _ (.head _) _ h1, h2.mono g⟩
  | inst C fs =>
    obtain ⟨x, dx, es, n, rfl, h1, h2, h3, h4⟩ := h
    exact ⟨x, dx, es, n, rfl, k _ (.head _) _ h1, k _ (.tail _ (.head _)) _ h2, h3.mono g, h4⟩
  | dict ks =>
    obtain ⟨a, o, kvs, D, rfl, h1, r⟩ := h
    exact ⟨a, o, kvs, D, rfl, k _ (.head _) _ h1, r⟩
  | cell v =>
    obtain ⟨a, o, w, rfl, h1, h2, h3⟩ := h
    refine ⟨a, o, w, rfl, k _ (.head _) _ h1, h2, ?_⟩
    cases v with
    | none => exact h3
    | some x => obtain ⟨y, e, h3⟩ := h3; exact ⟨y, e, h3.mono g⟩
theorem RO.mem {G : Gl} {hb : Heap} {ρ : List (List Addr)} {N : Led} {as : List Addr} {o : AO} (h : RO G hb ρ N as o) : ∀ a ∈ as, ∃ x, (a, x) ∈ N := by
  cases o with
  | list l => obtain ⟨a, vs, n, rfl, h1, h2⟩ := h; intro b hb; cases List.mem_singleton.mp hb; exact ⟨_, h1⟩
  | inst C fs =>
    obtain ⟨x, dx, es, n, rfl, h1, h2, h3⟩ := h
    intro b hb
    rcases List.mem_cons.mp hb with rfl | hb
    · exact ⟨_, h1⟩
    · cases List.mem_singleton.mp hb; exact ⟨_, h2⟩
  | dict ks => obtain ⟨a, o, kvs, D, rfl, h1, r⟩ := h; intro b hb; cases List.mem_singleton.mp hb; exact ⟨_, h1⟩
  | cell v => obtain ⟨a, o, w, rfl, h1, r⟩ := h; intro b hb; cases List.mem_singleton.mp hb; exact ⟨_, h1⟩

theorem own_mem {ρ : List (List Addr)} {i : Nat} {as : List Addr} (h : ρ[i]? = some as) {a : Addr} (ha : a ∈ as) : a ∈ ρ.flatten := List.mem_flatten.mpr ⟨as, List.mem_of_getElem? h, ha⟩
theorem own_apart : ∀ {ρ : List (List Addr)}, ρ.flatten.Nodup → ∀ {i j : Nat} {as bs : List Addr}, ρ[i]? = some as → ρ[j]? = some bs → i ≠ j → ∀ a ∈ as, a ∉ bs
  | [], _, _, _, _, _, h, _, _ => by cases h
  | r :: ρ, nd, i, j, as, bs, h1, h2, hij => by
    rw [List.flatten_cons, List.nodup_append] at nd
    obtain ⟨_, n2, n3⟩ := nd
    cases i with
    | zero =>
      cases j with
      | zero => exact absurd rfl hij
      | succ j =>
        cases h1
        exact fun a ha hb => n3 a ha a (own_mem (by simpa using h2) hb) rfl
    | succ i =>
      cases j with
      | zero =>
        cases h2
        exact fun a ha hb => n3 a hb a (own_mem (by simpa using h1) ha) rfl
      | succ j => exact own_apart n2 (by simpa using h1) (by simpa using h2) (fun e => hij (by rw [e]))

section
variable {G : Gl} {c : Cx G} {st : ASt} {fm : Fm} {s : Shared} {ρ : List (List Addr)} {N N' : Led} {m : Str → Option Value} {h' : Heap} {k : Nat}

theorem RelD.same (r : RelD c st fm s ρ N m) (F : Fr c.h₀ c.L h' m) (nw : News c.h₀ c.L h' N) : RelD c st fm { s with heap := h', toks := k } ρ N m :=
  ⟨F, nw, r.nd, r.ow, r.len, r.env, r.heap, r.pend, r.xs, r.g, r.cel⟩
theorem RelD.toks (r : RelD c st fm s ρ N m) : RelD c st fm { s with toks := k } ρ N m := ⟨r.F, r.nw, r.nd, r.ow, r.len, r.env, r.heap, r.pend, r.xs, r.g, r.cel⟩
theorem RelD.more (r : RelD c st fm s ρ N m) (F : Fr c.h₀ c.L h' m) (nw : News c.h₀ c.L h' N') (nd : (N'.map (·.1)).Nodup) (hs : ∀ p ∈ N, p ∈ N') : RelD c st fm { s with heap := h', toks := k } ρ N' m := by
  have g : Grow ρ ρ N N' := grow_sub hs
  refine ⟨F, nw, nd, r.ow, r.len, fun i a e => ?_, fun i o e => ?_, r.pend.mono g, fun p hp => ⟨hs _ (r.xs p hp).1, (r.xs p hp).2⟩, r.g, r.cel.mono g⟩
  · obtain ⟨x, v, h1, h2, h3⟩ := r.env i a e
    exact ⟨x, v, h1, h2, h3.mono g⟩
  · obtain ⟨as, h1, h2⟩ := r.heap i o e
    exact ⟨as, h1, h2.mono g fun _ _ _ h => hs _ h⟩
theorem nd_cons {q : Addr} {o : Obj} (nd : (N.map (·.1)).Nodup) (l : ∀ p ∈ N, p.1 ≠ q) : (((q, o) :: N).map (·.1)).Nodup := by
  rw [List.map_cons, List.nodup_cons]
  refine ⟨fun h => ?_, nd⟩
  obtain ⟨p, hp, e⟩ := List.mem_map.mp h
  exact l p hp e
theorem RelD.frozen {q : Addr} {o : Obj} (r : RelD c st fm s ρ N m) (F : Fr c.h₀ c.L h' m) (nw : News c.h₀ c.L h' ((q, o) :: N)) (l : ∀ p ∈ N, p.1 ≠ q) : RelD c st fm { s with heap := h', toks := k } ρ ((q, o) :: N) m :=
  r.more F nw (nd_cons r.nd l) fun _ h => .tail _ h
theorem RelD.off {q : Addr} (r : RelD c st fm s ρ N m) (l : ∀ p ∈ N, p.1 ≠ q) : q ∉ ρ.flatten := by
  intro h
  obtain ⟨as, h1, h2⟩ := List.mem_flatten.mp h
  obtain ⟨i, hi⟩ := List.getElem?_of_mem h1
  have hlt : i < st.heap.length := r.len ▸ (List.getElem?_eq_some_iff.mp hi).1
  obtain ⟨as', e1, e2⟩ := r.heap i _ (List.getElem?_eq_getElem hlt)
  rw [hi] at e1
  cases e1
  obtain ⟨x, hx⟩ := e2.mem q h2
  exact l _ hx rfl
theorem RelD.fmTo {fm' : Fm} (r : RelD c st fm s ρ N m) (h : RVs c.base ρ N fm'.as fm'.vs) (hx : fm'.xs = fm.xs) : RelD c st fm' s ρ N m := ⟨r.F, r.nw, r.nd, r.ow, r.len, r.env, r.heap, h, hx ▸ r.xs, r.g, r.cel⟩
theorem RelD.push {a : AV} {v : Value} (r : RelD c st fm s ρ N m) (h : RV c.base ρ N a v) : RelD c st (fm.push a v) s ρ N m := r.fmTo (.cons h r.pend) rfl
theorem RelD.top {a : AV} {v : Value} (r : RelD c st (fm.push a v) s ρ N m) : RV c.base ρ N a v := by cases r.pend with | cons h _ => exact h
theorem RelD.pop {a : AV} {v : Value} (r : RelD c st (fm.push a v) s ρ N m) : RelD c st fm s ρ N m := r.fmTo (by cases r.pend with | cons _ h => exact h) rfl
theorem RelD.own {as : List Addr} {o : AO} (r : RelD c st fm s ρ N m) (F : Fr c.h₀ c.L h' m) (nw : News c.h₀ c.L h' N') (nd : (N'.map (·.1)).Nodup) (hs : ∀ p ∈ N, p ∈ N') (hf : ∀ p ∈ N, p.1 ∉ as) (ha : as.Nodup)
    (ho : RO G c.base (ρ ++ [as]) N' as o) : RelD c { st with heap := st.heap ++ [o] } fm { s with heap := h', toks := k } (ρ ++ [as]) N' m := by
  have g : Grow ρ (ρ ++ [as]) N N' := grow_own hs hf
  have off : ∀ a ∈ as, a ∉ ρ.flatten := fun a h => r.off fun p hp e => hf p hp (e ▸ h)
  refine ⟨F, nw, nd, ?_, by simp [r.len], fun i a e => ?_, fun i x e => ?_, r.pend.mono g, fun p hp => ⟨hs _ (r.xs p hp).1, g.ow _ _ (r.xs p hp).1 (r.xs p hp).2.1, (r.xs p hp).2.2⟩, r.g, r.cel.mono g⟩
  · rw [List.flatten_append, List.nodup_append]
    refine ⟨r.ow, by simpa using ha, fun a h1 b h2 e => ?_⟩
    subst e
    exact off a (by simpa using h2) h1
  · obtain ⟨x, v, h1, h2, h3⟩ := r.env i a e
    exact ⟨x, v, h1, h2, h3.mono g⟩
  · by_cases hi : i < st.heap.length
    · rw [List.getElem?_append_left hi] at e
      obtain ⟨bs, h1, h2⟩ := r.heap i x e
      exact ⟨bs, g.ex _ _ h1, h2.mono g fun _ _ _ h => hs _ h⟩
    · rw [List.getElem?_append_right (by omega)] at e
      have hi0 : i - st.heap.length = 0 := by
        have := (List.getElem?_eq_some_iff.mp e).1
        simp at this; omega
      rw [hi0] at e
      cases e
      have hi' : i = ρ.length := by rw [r.len]; omega
      subst hi'
      exact ⟨as, by simp, ho⟩
theorem RelD.upd' {d : Addr} {o o' : Obj} {i : Nat} {as : List Addr} {x' : AO} (r : RelD c st fm s ρ N m) (F : Fr c.h₀ c.L h' m) (nw : News c.h₀ c.L h' N') (u : Upd d o o' N N') (hi : ρ[i]? = some as) (hd : d ∈ as)
    (h1 : ∀ vs, o ≠ tupO vs) (ho : RO G c.base ρ N' as x') : RelD c { st with heap := st.heap.set i x' } fm { s with heap := h', toks := k } ρ N' m := by
  have g : Grow ρ ρ N N' := grow_upd' r.nd u h1 fun _ _ _ => own_mem hi hd
  refine ⟨F, nw, by rw [upd_keys u]; exact r.nd, r.ow, by simp [r.len], fun j a e => ?_, fun j y e => ?_, r.pend.mono g, fun p hp => ⟨upd_mem u _ (r.xs p hp).1 fun e => (r.xs p hp).2.1 (e ▸ own_mem hi hd), (r.xs p hp).2⟩, r.g, r.cel.mono g⟩
  · obtain ⟨x, v, h1, h2, h3⟩ := r.env j a e
    exact ⟨x, v, h1, h2, h3.mono g⟩
  · have hlt : i < st.heap.length := r.len ▸ (List.getElem?_eq_some_iff.mp hi).1
    by_cases hj : j = i
    · subst hj
      rw [List.getElem?_set_self hlt] at e
      cases e
      exact ⟨as, hi, ho⟩
    · rw [List.getElem?_set_ne (fun e => hj e.symm)] at e
      obtain ⟨bs, e1, e2⟩ := r.heap j y e
      exact ⟨bs, e1, e2.mono g fun a ha z hz => upd_mem u _ hz fun q => own_apart r.ow e1 hi hj a ha ((show a = d from q).symm ▸ hd)⟩
theorem RelD.upd {d : Addr} {o o' : Obj} {i : Nat} {as : List Addr} {x' : AO} (r : RelD c st fm s ρ N m) (F : Fr c.h₀ c.L h' m) (nw : News c.h₀ c.L h' N') (u : Upd d o o' N N') (hi : ρ[i]? = some as) (hd : d ∈ as)
    (h1 : o.cls ≠ .type "tuple") (ho : RO G c.base ρ N' as x') : RelD c { st with heap := st.heap.set i x' } fm { s with heap := h', toks := k } ρ N' m := r.upd' F nw u hi hd (fun vs e => h1 (by rw [e])) ho
theorem RelD.updX {d : Addr} {o o' : Obj} {xs : Led} (r : RelD c st { fm with xs := (d, o) :: xs } s ρ N m) (F : Fr c.h₀ c.L h' m) (nw : News c.h₀ c.L h' N') (u : Upd d o o' N N') (hx : ∀ p ∈ xs, p.1 ≠ d)
    (h1 : o'.cls ≠ .type "list" ∧ o'.cls ≠ .type "tuple") : RelD c st { fm with xs := (d, o') :: xs } { s with heap := h', toks := k } ρ N' m := by
  obtain ⟨x1, x2, x3⟩ := r.xs _ (.head _)
  have g : Grow ρ ρ N N' := grow_upd r.nd u x3.2 fun e => absurd e x3.1
  refine ⟨F, nw, by rw [upd_keys u]; exact r.nd, r.ow, r.len, fun j a e => ?_, fun j y e => ?_, r.pend.mono g, fun p hp => ?_, r.g, r.cel.mono g⟩
  · obtain ⟨x, v, h1, h2, h3⟩ := r.env j a e
    exact ⟨x, v, h1, h2, h3.mono g⟩
  · obtain ⟨bs, e1, e2⟩ := r.heap j y e
    exact ⟨bs, e1, e2.mono g fun a ha z hz => upd_mem u _ hz fun q => x2 ((show a = d from q) ▸ own_mem e1 ha)⟩
  · rcases List.mem_cons.mp hp with rfl | hp
    · exact ⟨upd_new u, x2, h1⟩
    · exact ⟨upd_mem u _ (r.xs p (.tail _ hp)).1 (hx p hp), (r.xs p (.tail _ hp)).2⟩
end

end Mine
end
section
namespace Mine

abbrev noE : Value → Shared → Prop := fun _ _ => False
noncomputable def Gives {G : Gl} (c : Cx G) (t : Sem Value) (fm : Fm) (s : Shared) (P : AV → ASt → Prop) : Prop :=
  ∀ Q : Value → Shared → Prop, (∀ a v st' s', P a st' → Rel c st' (fm.push a v) s' → Q v s') → wpAny c.M c.A t Q noE s
noncomputable def TE {G : Gl} (c : Cx G) (e : PySem.Expr) (st : ASt) (P : AV → ASt → Prop) : Prop := ∀ fm s, Rel c st fm s → Gives c (eval e c.env) fm s P

section
variable {G : Gl} {c : Cx G} {st : ASt} {fm : Fm} {s : Shared}
theorem Rel.pop {a : AV} {v : Value} (r : Rel c st (fm.push a v) s) : Rel c st fm s := let ⟨ρ, N, m, d⟩ := r; ⟨ρ, N, m, d.pop⟩
theorem Rel.toks {k : Nat} (r : Rel c st fm s) : Rel c st fm { s with toks := k } := let ⟨ρ, N, m, d⟩ := r; ⟨ρ, N, m, d.toks⟩
theorem Rel.flat {a : AV} {v : Value} (r : Rel c st fm s) (h : ∀ hb ρ N, RV hb ρ N a v) : Rel c st (fm.push a v) s := let ⟨ρ, N, m, d⟩ := r; ⟨ρ, N, m, d.push (h _ _ _)⟩
theorem Rel.int {i : Int} {t : Tok} {k : Nat} (r : Rel c st fm s) : Rel c st (fm.push (.int i) (.int i t)) { s with toks := k } := r.toks.flat fun _ _ _ => .int i t
theorem Rel.str {x : Str} {t : Tok} {k : Nat} (r : Rel c st fm s) : Rel c st (fm.push (.str x) (.str x t)) { s with toks := k } := r.toks.flat fun _ _ _ => .str x t
theorem Rel.bool {b : Bool} (r : Rel c st fm s) : Rel c st (fm.push (.bool b) (.bool b)) s := r.flat fun _ _ _ => .bool b
theorem Rel.none (r : Rel c st fm s) : Rel c st (fm.push .none .none) s := r.flat fun _ _ _ => .none
theorem Rel.popInt {i : Int} {v : Value} (r : Rel c st (fm.push (.int i) v) s) : ∃ t, v = .int i t := by
  obtain ⟨ρ, N, m, d⟩ := r
  cases d.top with | int _ t => exact ⟨t, rfl⟩
theorem Rel.popStr {x : Str} {v : Value} (r : Rel c st (fm.push (.str x) v) s) : ∃ t, v = .str x t := by
  obtain ⟨ρ, N, m, d⟩ := r
  cases d.top with | str _ t => exact ⟨t, rfl⟩
theorem Rel.popBool {b : Bool} {v : Value} (r : Rel c st (fm.push (.bool b) v) s) : v = .bool b := by
  obtain ⟨ρ, N, m, d⟩ := r
  cases d.top with | bool _ => rfl
theorem Rel.popNone {v : Value} (r : Rel c st (fm.push .none v) s) : v = .none := by
  obtain ⟨ρ, N, m, d⟩ := r
  cases d.top with | none => rfl
end

noncomputable def Bin (op : Operator) (a b : AV) (k : AV → Prop) : Prop := match a, b with
  | .int x, .int y => (match op with
    | .Add => k (.int (x + y))
    | .Sub => k (.int (x - y))
    | .Mult => IntMulOk x y ∧ k (.int (x * y))
    | .FloorDiv => (y ≠ 0 ∧ Builtin.divisionGoesByPylong x y = false) ∧ k (.int (x.fdiv y))
    | .Mod => y ≠ 0 ∧ k (.int (x.fmod y))
    | .Pow => (0 ≤ y ∧ (Builtin.Int.intBits x : Int) * y ≤ 2 ^ 27) ∧ k (.int (x ^ y.toNat))
    | _ => False)
  | .str x, .str y => (match op with
    | .Add => x.length + y.length ≤ sizeLine ∧ k (.str (x ++ y))
    | _ => False)
  | .str x, .int n => (match op with
    | .Mult => MulOk x n ∧ k (.str (Txt.mul x n))
    | _ => False)
  | _, _ => False

section
variable {G : Gl} {c : Cx G} {st : ASt} {fm : Fm} {s : Shared}
theorem bin_sound {op : Operator} {a b : AV} {v u : Value} {P : AV → ASt → Prop} (r : Rel c st ((fm.push a v).push b u) s) (h : Bin op a b fun x => P x st) : Gives c (binaryOp op v u) fm s P := by
  intro Q q
  unfold Bin at h
  split at h
  · rename_i x y
    obtain ⟨t, rfl⟩ := r.popInt
    have r := r.pop
    obtain ⟨t', rfl⟩ := r.popInt
    have r := r.pop
    cases op <;> first | exact h.elim | skip
    · exact add_int (q _ _ _ _ h r.int)
    · exact sub_int (q _ _ _ _ h r.int)
    · exact mul_int (q _ _ _ _ h.2 r.int) h.1
    · exact mod_int' h.1 (q _ _ _ _ h.2 r.int)
    · exact pow_int h.1.1 h.1.2 (q _ _ _ _ h.2 r.int)
    · exact floordiv_int h.1.1 (q _ _ _ _ h.2 r.int) (.inl h.1.2)
  · rename_i x y
    obtain ⟨t, rfl⟩ := r.popStr
    have r := r.pop
    obtain ⟨t', rfl⟩ := r.popStr
    have r := r.pop
    cases op <;> first | exact h.elim | skip
    exact SBL.add (fun t' k _ => q _ _ _ _ h.2 r.str) h.1
  · rename_i x n
    obtain ⟨t, rfl⟩ := r.popInt
    have r := r.pop
    obtain ⟨t', rfl⟩ := r.popStr
    have r := r.pop
    cases op <;> first | exact h.elim | skip
    exact SB.mul h.1 (fun t' k => q _ _ _ _ h.2 r.str)
  · exact h.elim

theorem TE.bin {l r : PySem.Expr} {op : Operator} {pos : Pos} {P : AV → ASt → Prop} (h : TE c l st fun a st1 => TE c r st1 fun b st2 => Bin op a b fun x => P x st2) : TE c (.BinOp l op r pos) st P := by
  intro fm s hr Q q
  refine wpAny_BinOp (h fm s hr _ fun a v st1 s1 h1 r1 => h1 _ _ r1 _ fun b u st2 s2 h2 r2 => ?_)
  exact bin_sound r2 h2 Q q
theorem TE.int {i : Int} {k : Nat} {pos : Pos} {P : AV → ASt → Prop} (h : P (.int i) st) : TE c (.Constant (.int i) k pos) st P := fun _ _ hr _ q => wpAny_Constant_int (q _ _ _ _ h hr.int)
theorem TE.str {x : Str} {k : Nat} {pos : Pos} {P : AV → ASt → Prop} (h : P (.str x) st) : TE c (.Constant (.str x) k pos) st P := fun _ _ hr _ q => Constant_str (q _ _ _ _ h hr.str)
theorem TE.bool {b : Bool} {k : Nat} {pos : Pos} {P : AV → ASt → Prop} (h : P (.bool b) st) : TE c (.Constant (.bool b) k pos) st P := fun _ _ hr _ q => wpAny_Constant_bool (q _ _ _ _ h hr.bool)
theorem TE.none {k : Nat} {pos : Pos} {P : AV → ASt → Prop} (h : P .none st) : TE c (.Constant .none k pos) st P := fun _ _ hr _ q => wpAny_Constant_none (q _ _ _ _ h hr.none)

theorem lookup_of_get {names : List (Str × NameKind)} (nd : (names.map (·.1)).Nodup) {i : Nat} {x : Str} {k : NameKind} (h : names[i]? = some (x, k)) : names.lookup x = some k := by
  induction names generalizing i with
  | nil => cases h
  | cons p r ih =>
    rw [List.map_cons, List.nodup_cons] at nd
    cases i with
    | zero => cases h; simp
    | succ i =>
      have h' : r[i]? = some (x, k) := by simpa using h
      have hne : x ≠ p.1 := fun e => nd.1 (e ▸ List.mem_map_of_mem (f := (·.1)) (List.mem_of_getElem? h'))
      rw [List.lookup_cons, beq_eq_false_iff_ne.mpr hne]
      exact ih nd.2 h'
theorem TE.loc {i : Nat} {x : Str} {a : AV} {pos : Pos} {P : AV → ASt → Prop} (hx : c.sc.names[i]? = some (x, .local)) (hd : (x == ("__debug__" : Str)) = false) (he : st.env[i]? = some (some a)) (h : P a st) : TE c (.Name x pos) st P := by
  intro fm s hr Q q
  obtain ⟨ρ, N, m, d⟩ := hr
  obtain ⟨y, v, h1, h2, h3⟩ := d.env i a he
  rw [hx] at h1
  cases h1
  exact nameX_L d.F h2 (q _ _ _ _ h ⟨ρ, N, m, d.push h3⟩) c.hk (lookup_of_get c.nd hx) hd
theorem TE.cel {i : Nat} {x : Str} {a : AV} {pos : Pos} {P : AV → ASt → Prop} (hx : c.sc.names.lookup x = some .cell) (hi : (x, i) ∈ c.ci) (hd : (x == ("__debug__" : Str)) = false) (he : st.heap[i]? = some (.cell (some a))) (h : P a st) : TE c (.Name x pos) st P := by
  intro fm s hr Q q
  obtain ⟨ρ, N, m, d⟩ := hr
  obtain ⟨b, h1, h2⟩ := d.cel x i hi
  cases h2 with
  | obj hρ =>
    obtain ⟨as', e1, b', o, w, rfl, hm, hdt, y, rfl, hv⟩ := d.heap i _ he
    rw [hρ] at e1
    cases e1
    exact nameX_C d.nw h1 hm hdt (q _ _ _ _ h ⟨ρ, N, m, d.push hv⟩) c.hk hx hd
theorem TE.globInt {x : Str} {i : Int} {t : Tok} {pos : Pos} {P : AV → ASt → Prop} (hx : c.sc.names.lookup x = some .globalImplicit) (hd : (x == ("__debug__" : Str)) = false) (hg : nsIn G.K mainGlobals x = some (some (.int i t))) (h : P (.int i) st) : TE c (.Name x pos) st P := by
  intro fm s hr Q q
  obtain ⟨ρ, N, m, d⟩ := hr
  exact nameX_K d.F c.X (topRead_of c.T) hg (q _ _ _ _ h ⟨ρ, N, m, d.push (.int i t)⟩) c.hk hx hd
theorem name_any {x : Str} {v : Value} {pos : Pos} {Q : Value → Shared → Prop} (hr : Rel c st fm s) (hx : c.sc.names.lookup x = some .globalImplicit) (hd : (x == ("__debug__" : Str)) = false) (hg : nsIn G.K mainGlobals x = some (some v)) (h : Q v s) :
    wpAny c.M c.A (eval (.Name x pos) c.env) Q noE s := by
  obtain ⟨ρ, N, m, d⟩ := hr
  exact nameX_K d.F c.X (topRead_of c.T) hg h c.hk hx hd
theorem name_blt {x : Str} {v : Value} {pos : Pos} {Q : Value → Shared → Prop} (hr : Rel c st fm s) (hx : c.sc.names.lookup x = some .globalImplicit) (hd : (x == ("__debug__" : Str)) = false) (hg : nsIn G.K mainGlobals x = some none) (hb : bootBuiltins x = some v) (hn : x ≠ "__name__") (h : Q v s) :
    wpAny c.M c.A (eval (.Name x pos) c.env) Q noE s := by
  obtain ⟨ρ, N, m, d⟩ := hr
  exact nameX_B d.F c.X (topRead_of c.T) hg hb hn h c.hk hx hd
end

noncomputable def isPlain : Nat → AV → Bool
  | _, .none => true
  | _, .bool _ => true
  | _, .int _ => true
  | _, .str x => PyData.strOk x
  | n + 1, .tup l => l.all (isPlain n)
  | n + 1, .lst l => l.all (isPlain n)
  | _, _ => false
mutual
noncomputable def toPy : AV → PyData
  | .none => .none
  | .bool b => .bool b
  | .int i => .int i
  | .str x => .str x
  | .tup l => .tuple (toPys l)
  | .lst l => .list (toPys l)
  | .obj _ => .none
noncomputable def toPys : List AV → List PyData
  | [] => []
  | a :: l => toPy a :: toPys l
end

section
variable {hb h : Heap} {ρ : List (List Addr)} {N : Led}
mutual
theorem reads_of {L : Addr} {h₀ : Heap} (W : News h₀ L h N) (k : ∀ b o, hb.get? b = some o → h.get? b = some o) : ∀ {a : AV} {v : Value} (n : Nat), RV hb ρ N a v → isPlain n a = true → ∃ as, Reads h v (toPy a) as
  | _, _, _, .none, _ => ⟨_, Reads.none⟩
  | _, _, _, .bool b, _ => ⟨_, Reads.bool b⟩
  | _, _, _, .int i t, _ => ⟨_, Reads.int i t⟩
  | _, _, _, .str x t, _ => ⟨_, Reads.str x t⟩
  | _, _, 0, .tup _ _, hk => by simp [isPlain] at hk
  | _, _, 0, .lst _ _ _, hk => by simp [isPlain] at hk
  | _, _, 0, .lstB _ _, hk => by simp [isPlain] at hk
  | _, _, n + 1, .tup hm r, hk => by
    obtain ⟨as, q⟩ := readsAll_of W k n r (by simpa [isPlain] using hk)
    rw [toPy]
    exact ⟨as, reads_tuple_at (W.get hm) rfl rfl (by simpa using q)⟩
  | _, _, n + 1, .lst hm _ r, hk => by
    obtain ⟨as, q⟩ := readsAll_of W k n r (by simpa [isPlain] using hk)
    rw [toPy]
    exact ⟨_, reads_list_at (W.get hm) rfl rfl (by simpa [PySem.W.listOf] using q)⟩
  | _, _, n + 1, .lstB hm r, hk => by
    obtain ⟨as, q⟩ := readsAll_of W k n r (by simpa [isPlain] using hk)
    rw [toPy]
    obtain ⟨o, h1, h2, n', h3⟩ := hm
    exact ⟨_, reads_list_at (k _ _ h1) h2 h3 (by simpa using q)⟩
  | _, _, n, .obj _, hk => by cases n <;> simp [isPlain] at hk
theorem readsAll_of {L : Addr} {h₀ : Heap} (W : News h₀ L h N) (k : ∀ b o, hb.get? b = some o → h.get? b = some o) : ∀ {l : List AV} {vs : List Value} (n : Nat), RVs hb ρ N l vs → (∀ a ∈ l, isPlain n a = true) → ∃ as, ReadsAll h vs (toPys l) as
  | _, _, _, .nil, _ => ⟨_, ReadsAll.nil⟩
  | _, _, n, .cons hd r, hk => by
    obtain ⟨as, q⟩ := reads_of W k n hd (hk _ (.head _))
    obtain ⟨bs, p⟩ := readsAll_of W k n r fun a hm => hk a (.tail _ hm)
    rw [toPys]
    exact ⟨_, ReadsAll.cons q p⟩
end
end
theorem lay_of : ∀ (n : Nat) (a : AV), isPlain n a = true → (toPy a).canLay0 = true ∧ (toPy a).depth ≤ n := by
  have all : ∀ (n : Nat), (∀ d, isPlain n d = true → (toPy d).canLay0 = true ∧ (toPy d).depth ≤ n) → ∀ ds : List AV, (∀ d ∈ ds, isPlain n d = true) → PyData.canLayAll0 (toPys ds) = true ∧ PyData.depthAll (toPys ds) ≤ n := by
    intro n ih ds
    induction ds with
    | nil => intro _; simp [toPys, PyData.canLayAll0, PyData.depthAll]
    | cons d ds hi =>
      intro h
      have h1 := ih d (h d (.head _))
      have h2 := hi fun e he => h e (.tail _ he)
      simp only [toPys, PyData.canLayAll0, PyData.depthAll, h1.1, h2.1, Bool.and_self, true_and]
      have a1 := h1.2
      have a2 := h2.2
      omega
  intro n
  induction n with
  | zero =>
    intro d h
    cases d <;> simp_all [isPlain, toPy, PyData.canLay0, PyData.depth]
  | succ n ih =>
    intro d h
    cases d with
    | none => simp [toPy, PyData.canLay0, PyData.depth]
    | bool b => simp [toPy, PyData.canLay0, PyData.depth]
    | int i => simp [toPy, PyData.canLay0, PyData.depth]
    | str x => simp [isPlain] at h; simp [toPy, PyData.canLay0, PyData.depth, h]
    | obj i => simp [isPlain] at h
    | tup ds =>
      have q := all n ih ds (by simpa [isPlain] using h)
      have q2 := q.2
      simp only [toPy, PyData.canLay0, PyData.depth, q.1, true_and]
      omega
    | lst ds =>
      have q := all n ih ds (by simpa [isPlain] using h)
      have q2 := q.2
      simp only [toPy, PyData.canLay0, PyData.depth, q.1, true_and]
      omega

noncomputable def strsOf : List AV → Option (List Str)
  | [] => some []
  | .str x :: l => (strsOf l).map (x :: ·)
  | _ => none
noncomputable def seqOf (hp : List AO) : AV → Option (List AV)
  | .lst l => some l
  | .obj i => match hp[i]? with
    | some (.list l) => some l
    | _ => none
  | _ => none
noncomputable def view (hp : List AO) : AV → AV
  | .obj i => match hp[i]? with
    | some (.list l) => .lst l
    | _ => .obj i
  | a => a
noncomputable def Cmp (hp : List AO) (op : CmpOp) (a b : AV) (k : Bool → Prop) : Prop := match op with
  | .Lt => (match a, b with
    | .int x, .int y => k (decide (x < y))
    | .str x, .str y => k (decide (x.cps.toList < y.cps.toList))
    | _, _ => False)
  | .LtE => (match a, b with
    | .int x, .int y => k (decide (x ≤ y))
    | .str x, .str y => k (!decide (y.cps.toList < x.cps.toList))
    | _, _ => False)
  | .Gt => (match a, b with
    | .int x, .int y => k (decide (y < x))
    | _, _ => False)
  | .GtE => (match a, b with
    | .int x, .int y => k (decide (y ≤ x))
    | _, _ => False)
  | .Eq => (match a, b with
    | .int x, .int y => k (x == y)
    | .str x, .str y => k (x == y)
    | a, b => (isPlain 8 (view hp a) = true ∧ isPlain 8 (view hp b) = true) ∧ k (PyData.eqv (toPy (view hp a)) (toPy (view hp b))))
  | .NotEq => (match a, b with
    | .int x, .int y => k (x != y)
    | .str x, .str y => k (x != y)
    | a, b => (isPlain 8 (view hp a) = true ∧ isPlain 8 (view hp b) = true) ∧ k (!PyData.eqv (toPy (view hp a)) (toPy (view hp b))))
  | .In => (match a, b with
    | .str y, .str x => k (!(Builtin.Str.occurrences x y 0 x.length 1).isEmpty)
    | .str x, .tup l => (match strsOf l with
      | some ys => k (ys.any (· == x))
      | none => False)
    | _, _ => False)
  | .NotIn => (match a, b with
    | .int i, .obj j => (match hp[j]? with
      | some (.dict ks) => k (!ks.contains i)
      | _ => False)
    | _, _ => False)
  | _ => False

theorem strs_of {hb : Heap} {ρ : List (List Addr)} {N : Led} : ∀ {l : List AV} {vs : List Value} {ys : List Str}, RVs hb ρ N l vs → strsOf l = some ys → StrsAre vs ys := by
  intro l
  induction l with
  | nil => intro vs ys r h; cases r; cases h; exact .nil
  | cons a l ih =>
    intro vs ys r h
    cases r with
    | cons r1 r2 =>
      cases a <;> simp only [strsOf, Option.map_eq_some_iff, reduceCtorEq] at h
      obtain ⟨zs, h1, rfl⟩ := h
      cases r1
      exact .cons _ _ (ih r2 h1)

section
variable {G : Gl} {c : Cx G} {st : ASt} {fm : Fm} {s : Shared}
theorem readsV {a : AV} {v : Value} {ρ : List (List Addr)} {N : Led} {m : Str → Option Value} (d : RelD c st fm s ρ N m) (r : RV c.base ρ N a v) (h : isPlain 8 (view st.heap a) = true) : ∃ as, Reads s.heap v (toPy (view st.heap a)) as := by
  have k : ∀ b o, c.base.get? b = some o → s.heap.get? b = some o := fun b o e => d.F.keep b o (c.B.stays b o e)
  by_cases hv : ∃ i l, a = .obj i ∧ st.heap[i]? = some (.list l)
  · obtain ⟨i, l, rfl, hi⟩ := hv
    have e : view st.heap (.obj i) = .lst l := by simp [view, hi]
    rw [e] at h ⊢
    cases r with
    | obj hρ =>
      obtain ⟨as, h1, b, vs, n, rfl, h2, h3⟩ := d.heap i _ hi
      rw [hρ] at h1
      cases h1
      obtain ⟨bs, q⟩ := readsAll_of d.nw k 7 h3 (by simpa [isPlain] using h)
      rw [toPy]
      exact ⟨_, reads_list_at (d.nw.get h2) rfl rfl (by simpa [PySem.W.listOf] using q)⟩
  · have e : view st.heap a = a := by
      cases a with
      | obj i =>
        simp only [view]
        split
        · rename_i l hl; exact absurd ⟨i, l, rfl, hl⟩ hv
        · rfl
      | _ => rfl
    rw [e] at h ⊢
    exact reads_of d.nw k 8 r h
theorem shaped_of {a : AV} (h : isPlain 8 a = true) : SeqAt.shaped (toPy a) = true := by
  have q := lay_of 8 a h
  unfold SeqAt.shaped
  rw [q.1, Bool.true_and]
  exact decide_eq_true (Nat.le_trans q.2 (by decide))
theorem cx_units : c.A.units + 64 < cLine := by have := c.hu; omega

theorem cmp_sound {op : CmpOp} {a b : AV} {v u : Value} {P : Bool → ASt → Prop} {Q : Value → Shared → Prop} (r : Rel c st ((fm.push a v).push b u) s) (h : Cmp st.heap op a b fun x => P x st)
    (q : ∀ x st' s', P x st' → Rel c st' fm s' → Q (.bool x) s') : wpAny c.M c.A (compareOp op v u) Q noE s := by
  have eqs : (isPlain 8 (view st.heap a) = true ∧ isPlain 8 (view st.heap b) = true) → ∃ as bs, Reads s.heap v (toPy (view st.heap a)) as ∧ Reads s.heap u (toPy (view st.heap b)) bs := by
    intro hp
    obtain ⟨ρ, N, m, d⟩ := r
    obtain ⟨as, ra⟩ := readsV d.pop d.pop.top hp.1
    obtain ⟨bs, rb⟩ := readsV d d.top hp.2
    exact ⟨as, bs, ra, rb⟩
  unfold Cmp at h
  cases op <;> dsimp only at h <;> first | exact h.elim | skip
  · split at h
    · obtain ⟨t, rfl⟩ := r.popInt
      obtain ⟨t', rfl⟩ := r.pop.popInt
      exact eq_int (q _ _ _ h r.pop.pop)
    · obtain ⟨t, rfl⟩ := r.popStr
      obtain ⟨t', rfl⟩ := r.pop.popStr
      exact eq_str (q _ _ _ h r.pop.pop)
    · obtain ⟨as, bs, ra, rb⟩ := eqs h.1
      exact eq_dataH ra rb (shaped_of h.1.1) (shaped_of h.1.2) cx_units (q _ _ _ h.2 r.pop.pop)
  · split at h
    · obtain ⟨t, rfl⟩ := r.popInt
      obtain ⟨t', rfl⟩ := r.pop.popInt
      exact ne_int (q _ _ _ h r.pop.pop)
    · obtain ⟨t, rfl⟩ := r.popStr
      obtain ⟨t', rfl⟩ := r.pop.popStr
      exact ne_str (q _ _ _ h r.pop.pop)
    · obtain ⟨as, bs, ra, rb⟩ := eqs h.1
      exact ne_dataH ra rb (shaped_of h.1.1) (shaped_of h.1.2) cx_units (q _ _ _ h.2 r.pop.pop)
  · split at h
    · obtain ⟨t, rfl⟩ := r.popInt
      obtain ⟨t', rfl⟩ := r.pop.popInt
      exact lt_int (q _ _ _ h r.pop.pop)
    · obtain ⟨t, rfl⟩ := r.popStr
      obtain ⟨t', rfl⟩ := r.pop.popStr
      exact lt_str (q _ _ _ h r.pop.pop)
    · exact h.elim
  · split at h
    · obtain ⟨t, rfl⟩ := r.popInt
      obtain ⟨t', rfl⟩ := r.pop.popInt
      exact le_int (q _ _ _ h r.pop.pop)
    · obtain ⟨t, rfl⟩ := r.popStr
      obtain ⟨t', rfl⟩ := r.pop.popStr
      exact PySem.P.le_str (q _ _ _ h r.pop.pop)
    · exact h.elim
  · split at h
    · obtain ⟨t, rfl⟩ := r.popInt
      obtain ⟨t', rfl⟩ := r.pop.popInt
      exact gt_int (q _ _ _ h r.pop.pop)
    · exact h.elim
  · split at h
    · obtain ⟨t, rfl⟩ := r.popInt
      obtain ⟨t', rfl⟩ := r.pop.popInt
      exact ge_int (q _ _ _ h r.pop.pop)
    · exact h.elim
  · split at h
    · obtain ⟨t, rfl⟩ := r.popStr
      obtain ⟨t', rfl⟩ := r.pop.popStr
      exact in_str (q _ _ _ h r.pop.pop)
    · split at h
      · rename_i ys hy
        obtain ⟨t, rfl⟩ := r.pop.popStr
        obtain ⟨ρ, N, m, d⟩ := r
        cases d.top with
        | tup hm hr => exact in_tuple_strs ⟨_, d.nw.get hm, rfl, _, rfl⟩ (strs_of hr hy) (q _ _ _ h ⟨ρ, N, m, d.pop.pop⟩)
      · exact h.elim
    · exact h.elim
  · split at h
    · split at h
      · rename_i ks hj
        obtain ⟨t, rfl⟩ := r.pop.popInt
        obtain ⟨ρ, N, m, d⟩ := r
        cases d.top with
        | obj hρ =>
          obtain ⟨as, h1, a, o, kvs, D, rfl, h2, h3, h4, h5, h6, h7⟩ := d.heap _ _ hj
          rw [hρ] at h1
          cases h1
          refine notin_intTab (TabAt.ofNews d.nw h2 h3 h4 h5) ?_
          rw [h6]
          exact q _ _ _ h ⟨ρ, N, m, d.pop.pop.toks⟩
      · exact h.elim
    · exact h.elim
end
end Mine
end
section
namespace Mine

noncomputable def TT {G : Gl} (c : Cx G) (e : PySem.Expr) (st : ASt) (P : Bool → ASt → Prop) : Prop :=
  ∀ fm s, Rel c st fm s → ∀ Q : Bool → Shared → Prop, (∀ b st' s', P b st' → Rel c st' fm s' → Q b s') → wpAny c.M c.A (PySem.isTrue e c.env (eval e c.env)) Q noE s
noncomputable def onB (a : AV) (k : Bool → Prop) : Prop := match a with
  | .bool b => k b
  | _ => False
noncomputable def fork (b : Bool) (k1 k2 : Prop) : Prop := (b = true → k1) ∧ (b = false → k2)

section
variable {G : Gl} {c : Cx G} {st : ASt} {fm : Fm} {s : Shared}
theorem TE.cmp {l r : PySem.Expr} {op : CmpOp} {pos : Pos} {P : AV → ASt → Prop} (hm : behindInMarks op r = false) (h : TE c l st fun a st1 => TE c r st1 fun b st2 => Cmp st2.heap op a b fun x => P (.bool x) st2) : TE c (.Compare l [op] [r] pos) st P := by
  intro fm s hr Q q
  refine wpAny_Compare1 (h fm s hr _ fun a v st1 s1 h1 r1 => h1 _ _ r1 _ fun b u st2 s2 h2 r2 => ?_) hm
  exact cmp_sound (P := fun x st => P (.bool x) st) r2 h2 fun x st' s' p r => q _ _ _ _ p r.bool
theorem TT.cmp {l r : PySem.Expr} {op : CmpOp} {pos : Pos} {P : Bool → ASt → Prop} (hm : behindInMarks op r = false) (h : TE c l st fun a st1 => TE c r st1 fun b st2 => Cmp st2.heap op a b fun x => P x st2) : TT c (.Compare l [op] [r] pos) st P := by
  intro fm s hr Q q
  refine wpAny_isTrue_Compare1 (h fm s hr _ fun a v st1 s1 h1 r1 => h1 _ _ r1 _ fun b u st2 s2 h2 r2 => ?_) hm
  exact cmp_sound (P := P) r2 h2 fun x st' s' p r => wpAny_truthy_bool (q _ _ _ p r)
theorem fork_ite {b : Bool} {k1 k2 : Prop} (h : fork b k1 k2) : if b = true then k1 else k2 := by
  cases b with
  | true => rw [if_pos rfl]; exact h.1 rfl
  | false => rw [if_neg Bool.false_ne_true]; exact h.2 rfl
theorem TT.plain {e : PySem.Expr} {P : Bool → ASt → Prop} (he : PySem.isTrue e c.env (eval e c.env) = (do let v ← eval e c.env; standAt e.pos; holding [v] (truthy v))) (h : TE c e st fun a st1 => onB a fun b => P b st1) : TT c e st P := by
  intro fm s hr Q q
  refine isTrue_plain (h fm s hr _ fun a v st1 s1 h1 r1 => ?_) he
  cases a <;> first | exact h1.elim | skip
  cases r1.popBool
  exact wpAny_truthy_bool (q _ _ _ h1 r1.pop)
theorem TT.and2 {x : PySem.Expr} {rest : List PySem.Expr} {pos : Pos} {P : Bool → ASt → Prop} (h : TT c x st fun b st1 => fork b (TT c (.BoolOp .And rest pos) st1 P) (P false st1)) : TT c (.BoolOp .And (x :: rest) pos) st P := by
  intro fm s hr Q q
  refine isTrue_and (h fm s hr _ fun b st1 s1 h1 r1 => fork_ite ⟨fun hb => ?_, fun hb => q _ _ _ (h1.2 hb) r1⟩)
  exact h1.1 hb fm s1 r1 Q q
theorem TT.or2 {x : PySem.Expr} {rest : List PySem.Expr} {pos : Pos} {P : Bool → ASt → Prop} (h : TT c x st fun b st1 => fork b (P true st1) (TT c (.BoolOp .Or rest pos) st1 P)) : TT c (.BoolOp .Or (x :: rest) pos) st P := by
  intro fm s hr Q q
  refine isTrue_or (h fm s hr _ fun b st1 s1 h1 r1 => fork_ite ⟨fun hb => q _ _ _ (h1.1 hb) r1, fun hb => ?_⟩)
  exact h1.2 hb fm s1 r1 Q q
theorem TT.and0 {pos : Pos} {P : Bool → ASt → Prop} (h : P true st) : TT c (.BoolOp .And [] pos) st P := fun _ _ hr _ q => isTrue_and_nil (q _ _ _ h hr)
theorem TT.or0 {pos : Pos} {P : Bool → ASt → Prop} (h : P false st) : TT c (.BoolOp .Or [] pos) st P := fun _ _ hr _ q => isTrue_or_nil (q _ _ _ h hr)
theorem TE.and2 {x y : PySem.Expr} {rest : List PySem.Expr} {pos : Pos} {P : AV → ASt → Prop} (h : TE c x st fun a st1 => onB a fun b => fork b (TE c (.BoolOp .And (y :: rest) pos) st1 P) (P (.bool false) st1)) : TE c (.BoolOp .And (x :: y :: rest) pos) st P := by
  intro fm s hr Q q
  refine BoolOp_and (h fm s hr _ fun a v st1 s1 h1 r1 => ?_)
  cases a <;> first | exact h1.elim | skip
  rename_i b
  cases r1.popBool
  refine wpAny_truthy_bool (fork_ite ⟨fun hb => h1.1 hb fm s1 r1.pop Q q, fun hb => ?_⟩)
  subst hb
  exact q _ _ _ _ (h1.2 rfl) r1
theorem TE.or2 {x y : PySem.Expr} {rest : List PySem.Expr} {pos : Pos} {P : AV → ASt → Prop} (h : TE c x st fun a st1 => onB a fun b => fork b (P (.bool true) st1) (TE c (.BoolOp .Or (y :: rest) pos) st1 P)) : TE c (.BoolOp .Or (x :: y :: rest) pos) st P := by
  intro fm s hr Q q
  refine BoolOp_or (h fm s hr _ fun a v st1 s1 h1 r1 => ?_)
  cases a <;> first | exact h1.elim | skip
  rename_i b
  cases r1.popBool
  refine wpAny_truthy_bool (fork_ite ⟨fun hb => ?_, fun hb => h1.2 hb fm s1 r1.pop Q q⟩)
  subst hb
  exact q _ _ _ _ (h1.1 rfl) r1
theorem TE.bool1 {x : PySem.Expr} {op : BoolOp} {pos : Pos} {P : AV → ASt → Prop} (h : TE c x st P) : TE c (.BoolOp op [x] pos) st P := fun fm s hr Q q => BoolOp_one (h fm s hr Q q)
theorem TE.ite {t b o : PySem.Expr} {pos : Pos} {P : AV → ASt → Prop} (h : TT c t st fun x st1 => fork x (TE c b st1 P) (TE c o st1 P)) : TE c (.IfExp t b o pos) st P := by
  intro fm s hr Q q
  exact wpAny_IfExp (h fm s hr _ fun x st1 s1 h1 r1 => fork_ite ⟨fun hb => h1.1 hb fm s1 r1 Q q, fun hb => h1.2 hb fm s1 r1 Q q⟩)

noncomputable def TEs {G : Gl} (c : Cx G) (t : List (Bool × Sem Value)) (st : ASt) (P : List AV → ASt → Prop) : Prop :=
  ∀ fm s, Rel c st fm s → ∀ Q : List Value → Shared → Prop, (∀ as vs st' s', as.length = vs.length → P as st' → Rel c st' ⟨as ++ fm.as, vs ++ fm.vs, fm.xs⟩ s' → Q vs s') → wpAny c.M c.A (spliced t) Q noE s
theorem TEs.nil {P : List AV → ASt → Prop} (h : P [] st) : TEs c [] st P := fun _ _ hr _ q => spliced_nil (q [] [] _ _ rfl h hr)
theorem TEs.cons {e : PySem.Expr} {rest : List (Bool × Sem Value)} {P : List AV → ASt → Prop} (h : TE c e st fun a st1 => TEs c rest st1 fun as st2 => P (a :: as) st2) : TEs c ((false, eval e c.env) :: rest) st P := by
  intro fm s hr Q q
  refine spliced_cons (h fm s hr _ fun a v st1 s1 h1 r1 => h1 _ _ r1 _ fun as vs st2 s2 hl h2 r2 => ?_)
  refine q (a :: as) (v :: vs) _ _ (by simp [hl]) h2 ?_
  obtain ⟨ρ, N, m, d⟩ := r2
  refine ⟨ρ, N, m, d.fmTo ?_ rfl⟩
  obtain ⟨vs1, vs2, e1, p1, p2⟩ := d.pend.split
  have hl1 : vs1.length = vs.length := by rw [p1.length, hl]
  obtain ⟨rfl, rfl⟩ := List.append_inj e1.symm hl1
  cases p2 with
  | cons p3 p4 => exact .cons p3 (p1.append p4)
end

section
variable {G : Gl} {c : Cx G} {st : ASt} {fm : Fm} {s : Shared}
theorem Rel.tup {as : List AV} {vs : List Value} {Q : Value → Shared → Prop} {P : AV → ASt → Prop} (hr : Rel c st ⟨as ++ fm.as, vs ++ fm.vs, fm.xs⟩ s) (hl : as.length = vs.length) (hsz : as.length ≤ sizeLine) (h : P (.tup as) st)
    (q : ∀ a v st' s', P a st' → Rel c st' (fm.push a v) s' → Q v s') : wpAny c.M c.A (newTuple vs) Q noE s := by
  obtain ⟨ρ, N, m, d⟩ := hr
  obtain ⟨vs1, vs2, e1, p1, p2⟩ := d.pend.split
  obtain ⟨rfl, rfl⟩ := List.append_inj e1 (by rw [p1.length, hl])
  have fresh : ∀ p ∈ N, p.1 ≠ s.heap.objs.size := fun p hp => Nat.ne_of_lt (Heap.lt_size (d.nw p hp).1)
  refine newTuple_N d.F d.nw (fun h' F' N' => ?_) (by omega)
  have d' := d.frozen (k := s.toks) F' N' fresh
  refine q _ _ _ _ h ⟨ρ, _, m, d'.fmTo (.cons (.tup (.head _) (p1.mono (grow_cons _))) (p2.mono (grow_cons _))) rfl⟩
theorem Rel.lst {as : List AV} {vs : List Value} {Q : Value → Shared → Prop} {P : AV → ASt → Prop} (hr : Rel c st ⟨as ++ fm.as, vs ++ fm.vs, fm.xs⟩ s) (hl : as.length = vs.length) (hsz : as.length ≤ sizeLine) (h : P (.lst as) st)
    (q : ∀ a v st' s', P a st' → Rel c st' (fm.push a v) s' → Q v s') : wpAny c.M c.A (newList vs) Q noE s := by
  obtain ⟨ρ, N, m, d⟩ := hr
  obtain ⟨vs1, vs2, e1, p1, p2⟩ := d.pend.split
  obtain ⟨rfl, rfl⟩ := List.append_inj e1 (by rw [p1.length, hl])
  refine newList_K d.F d.nw (fun l h' F' N' fresh => ?_) (by omega)
  have fr : ∀ p ∈ N, p.1 ≠ l := fun p hp => Nat.ne_of_lt (fresh p hp)
  have d' := d.frozen (k := s.toks) F' N' fr
  refine q _ _ _ _ h ⟨ρ, _, m, d'.fmTo (.cons (.lst (.head _) (d.off fr) (p1.mono (grow_cons _))) (p2.mono (grow_cons _))) rfl⟩
theorem Rel.newL {as : List AV} {vs : List Value} {Q : Value → Shared → Prop} {P : AV → ASt → Prop} (hr : Rel c st ⟨as ++ fm.as, vs ++ fm.vs, fm.xs⟩ s) (hl : as.length = vs.length) (hsz : as.length ≤ sizeLine)
    (h : P (.obj st.heap.length) { st with heap := st.heap ++ [.list as] }) (q : ∀ a v st' s', P a st' → Rel c st' (fm.push a v) s' → Q v s') : wpAny c.M c.A (newList vs) Q noE s := by
  obtain ⟨ρ, N, m, d⟩ := hr
  obtain ⟨vs1, vs2, e1, p1, p2⟩ := d.pend.split
  obtain ⟨rfl, rfl⟩ := List.append_inj e1 (by rw [p1.length, hl])
  refine newList_K d.F d.nw (fun l h' F' N' fresh => ?_) (by omega)
  have fr : ∀ p ∈ N, p.1 ≠ l := fun p hp => Nat.ne_of_lt (fresh p hp)
  have g : Grow ρ (ρ ++ [[l]]) N ((l, lstO vs 0) :: N) := grow_own (fun p hp => .tail _ hp) fun p hp => by simpa using fr p hp
  have d' := d.own (k := s.toks) (as := [l]) (o := .list as) F' N' (nd_cons d.nd fr) (fun p hp => .tail _ hp) (fun p hp => by simpa using fr p hp) (by simp) ⟨l, vs, 0, rfl, .head _, p1.mono g⟩
  refine q _ _ _ _ h ⟨_, _, m, d'.fmTo (.cons (.obj (as := []) (by simp [d.len])) (p2.mono g)) rfl⟩
end
end Mine
end
section
namespace Mine

theorem atName_inj' : ∀ i, i < 8 → ∀ j, j < 8 → atName i = atName j → i = j := by decide +kernel
theorem atName_inj (i j : Nat) (hi : i < 8) (hj : j < 8) (h : atName i = atName j) : i = j := atName_inj' i hi j hj h
theorem atName_mem : ∀ i : Nat, i < 8 → atName i ∈ atNames := by decide +kernel
noncomputable def putA (k : Nat) (v : AV) : List (Nat × AV) → List (Nat × AV)
  | [] => [(k, v)]
  | f :: r => if f.1 = k then (k, v) :: r else f :: putA k v r

section
variable {P : Params} {hb : Heap} {ρ : List (List Addr)} {N : Led}
theorem FRels.length {fs : List (Nat × AV)} {es : List DictEntry} (h : FRels P hb ρ N fs es) : es.length = fs.length := by
  induction h with
  | nil => rfl
  | cons _ _ ih => simp [ih]
theorem FRels.noref {fs : List (Nat × AV)} {es : List DictEntry} (h : FRels P hb ρ N fs es) : es.any (·.refKey) = false := by
  induction h with
  | nil => rfl
  | cons h _ ih =>
    obtain ⟨t, e⟩ := h.key
    rw [List.any_cons, ih]
    simp [DictEntry.refKey, e]
theorem FRels.get {fs : List (Nat × AV)} {es : List DictEntry} (h : FRels P hb ρ N fs es) (k8 : ∀ f ∈ fs, f.1 < 8) {k : Nat} (hk : k < 8) {a : AV} (e : fs.lookup k = some a) : ∃ v, getL (atName k) es = some (some v) ∧ RV hb ρ N a v := by
  suffices ∃ x, es.find? (·.key.isStr (atName k)) = some x ∧ RV hb ρ N a x.val by
    obtain ⟨x, h1, h2⟩ := this
    exact ⟨x.val, by unfold getL; rw [h1], h2⟩
  induction h with
  | nil => cases e
  | cons h r ih =>
    rename_i f x fs es
    obtain ⟨t, hx⟩ := h.key
    rw [List.lookup_cons] at e
    by_cases q : k = f.1
    · subst q
      simp only [beq_self_eq_true] at e
      cases e
      exact ⟨x, by rw [List.find?_cons]; simp [hx, Value.isStr], h.val⟩
    · rw [beq_eq_false_iff_ne.mpr q] at e
      obtain ⟨y, h1, h2⟩ := ih (fun g hg => k8 g (.tail _ hg)) e
      refine ⟨y, ?_, h2⟩
      have hne : atName f.1 ≠ atName k := fun z => q (atName_inj _ _ (k8 f (.head _)) hk z).symm
      rw [List.find?_cons]
      simp only [hx, Value.isStr, beq_eq_false_iff_ne.mpr hne]
      exact h1
theorem FRels.miss {fs : List (Nat × AV)} {es : List DictEntry} (h : FRels P hb ρ N fs es) (k8 : ∀ f ∈ fs, f.1 < 8) {name : Str} (hn : name ∉ atNames) : getL name es = some none := by
  have : es.find? (·.key.isStr name) = none := by
    induction h with
    | nil => rfl
    | cons h r ih =>
      rename_i f x fs es
      obtain ⟨t, hx⟩ := h.key
      rw [List.find?_cons]
      have hne : atName f.1 ≠ name := fun z => hn (z ▸ atName_mem _ (k8 f (.head _)))
      simp only [hx, Value.isStr, beq_eq_false_iff_ne.mpr hne]
      exact ih fun g hg => k8 g (.tail _ hg)
  unfold getL
  rw [this, h.noref]
  rfl
theorem FRels.some {fs : List (Nat × AV)} {es : List DictEntry} (h : FRels P hb ρ N fs es) (name : Str) : (getL name es).isSome = true := by
  unfold getL
  split
  · rfl
  · rw [h.noref]; rfl
theorem FRels.put {fs : List (Nat × AV)} {es : List DictEntry} (h : FRels P hb ρ N fs es) (k8 : ∀ f ∈ fs, f.1 < 8) {k : Nat} (hk : k < 8) {a : AV} {v : Value} {t : Tok} (r : RV hb ρ N a v) :
    FRels P hb ρ N (putA k a fs) (putL (atName k) (PyData.keyHash P (atName k)) (.str (atName k) t) v es) := by
  induction h with
  | nil => exact .cons ⟨⟨t, rfl⟩, rfl, r⟩ .nil
  | cons h q ih =>
    rename_i f x fs es
    obtain ⟨t', hx⟩ := h.key
    unfold putA putL
    by_cases e : f.1 = k
    · subst e
      simp only [hx, Value.isStr, beq_self_eq_true, if_true]
      exact .cons ⟨⟨t', rfl⟩, h.hash, r⟩ q
    · have hne : atName f.1 ≠ atName k := fun z => e (atName_inj _ _ (k8 f (.head _)) hk z)
      simp only [if_neg e, hx, Value.isStr, beq_eq_false_iff_ne.mpr hne, Bool.false_eq_true, if_false]
      exact .cons h (ih fun g hg => k8 g (.tail _ hg))
end
theorem putA_mem {k : Nat} {v : AV} : ∀ {fs : List (Nat × AV)}, ∀ f ∈ putA k v fs, f.1 = k ∨ f ∈ fs
  | [], f, h => by cases List.mem_singleton.mp h; exact .inl rfl
  | g :: r, f, h => by
    unfold putA at h
    split at h
    · rcases List.mem_cons.mp h with rfl | h
      · exact .inl rfl
      · exact .inr (.tail _ h)
    · rcases List.mem_cons.mp h with rfl | h
      · exact .inr (.head _)
      · exact (putA_mem f h).imp id (.tail _)
theorem putA_len {k : Nat} {v : AV} : ∀ {fs : List (Nat × AV)}, (putA k v fs).length ≤ fs.length + 1
  | [] => by simp [putA]
  | g :: r => by
    unfold putA
    split
    · simp
    · have := putA_len (k := k) (v := v) (fs := r)
      simp; omega

noncomputable def Attr (hp : List AO) (a : AV) (k : Nat) (P : AV → Prop) : Prop := match a with
  | .obj i => (match hp[i]? with
    | some (.inst _ fs) => (match fs.lookup k with
      | some v => P v
      | none => False)
    | _ => False)
  | _ => False
noncomputable def SetAttr (G : Gl) (hp : List AO) (a : AV) (k : Nat) (v : AV) (P : List AO → Prop) : Prop := match a with
  | .obj i => (match hp[i]? with
    | some (.inst C fs) => (G.ct.contains (C, k) = true ∧ fs.length ≤ 90) ∧ P (hp.set i (.inst C (putA k v fs)))
    | _ => False)
  | _ => False

theorem dict_tup : (Value.type "dict") ≠ .type "tuple" := by intro z; injection z with z; exact absurd z (by decide)
theorem dict_lst : (Value.type "dict") ≠ .type "list" := by intro z; injection z with z; exact absurd z (by decide)
theorem lst_tup : (Value.type "list") ≠ .type "tuple" := by intro z; injection z with z; exact absurd z (by decide)
theorem own_nd : ∀ {ρ : List (List Addr)}, ρ.flatten.Nodup → ∀ {i : Nat} {as : List Addr}, ρ[i]? = some as → as.Nodup
  | [], _, _, _, h => by cases h
  | r :: ρ, nd, i, as, h => by
    rw [List.flatten_cons, List.nodup_append] at nd
    cases i with
    | zero => cases h; exact nd.1
    | succ i => exact own_nd nd.2.1 (by simpa using h)
section
variable {G : Gl} {c : Cx G} {st : ASt} {fm : Fm} {s : Shared}
theorem lookup_mem {k : Nat} {v : AV} : ∀ {fs : List (Nat × AV)}, fs.lookup k = some v → (k, v) ∈ fs
  | [], h => by cases h
  | f :: r, h => by
    rw [List.lookup_cons] at h
    by_cases e : k = f.1
    · subst e
      simp only [beq_self_eq_true] at h
      cases h
      exact .head _
    · rw [beq_eq_false_iff_ne.mpr e] at h
      exact .tail _ (lookup_mem h)
theorem attr_sound {a : AV} {o : Value} {k : Nat} {expr : Bool} {P : AV → ASt → Prop} (hk : k < 8) (r : Rel c st (fm.push a o) s) (h : Attr st.heap a k fun v => P v st) : Gives c (getAttr o (atName k) expr) fm s P := by
  intro Q q
  unfold Attr at h
  split at h
  · split at h
    · rename_i C fs hi
      split at h
      · rename_i v hv
        obtain ⟨ρ, N, m, d⟩ := r
        cases d.top with
        | obj hρ =>
          obtain ⟨as, e1, x, dx, es, n, rfl, h2, h3, h4, h5, _⟩ := d.heap _ _ hi
          rw [hρ] at e1
          cases e1
          have k8 : ∀ f ∈ fs, f.1 < 8 := fun f hf => (G.ctOk _ (h5 f hf)).1
          obtain ⟨u, g1, g2⟩ := h4.get k8 hk hv
          have ok := (G.ctOk _ (h5 _ (lookup_mem hv))).2
          obtain ⟨at', fi, ng⟩ := ok.fi
          have hh : handedIn u = true := by cases g2 <;> rfl
          exact get_own d.F c.X (InstAt.of_news d.nw h2 h3) ok.pg ok.hd fi ng g1 hh (q _ _ _ _ h ⟨ρ, N, m, (d.pop.toks).push g2⟩)
      · exact h.elim
    · exact h.elim
  · exact h.elim
theorem TE.attr {x : Str} {xp : Pos} {k : Nat} {pos : Pos} {P : AV → ASt → Prop} (hk : k < 8) (h : TE c (.Name x xp) st fun a st1 => Attr st1.heap a k fun v => P v st1) : TE c (.Attribute (.Name x xp) (atName k) pos) st P := by
  intro fm s hr Q q
  exact Attribute_Name_ (h fm s hr _ fun a v st1 s1 h1 r1 => attr_sound hk r1 h1 Q q)
theorem setAttr_sound {a b : AV} {o u : Value} {k : Nat} {Q : Unit → Shared → Prop} {P : ASt → Prop} (hk : k < 8) (r : Rel c st ((fm.push b u).push a o) s) (h : SetAttr G st.heap a k b fun hp => P { st with heap := hp })
    (q : ∀ st' s', P st' → Rel c st' fm s' → Q () s') : wpAny c.M c.A (setAttr o (atName k) u) Q noE s := by
  unfold SetAttr at h
  split at h
  · split at h
    · rename_i C fs hi
      obtain ⟨ρ, N, m, d⟩ := r
      cases d.top with
      | obj hρ =>
        obtain ⟨as, e1, x, dx, es, n, rfl, h2, h3, h4, h5, h6⟩ := d.heap _ _ hi
        rw [hρ] at e1
        cases e1
        have k8 : ∀ f ∈ fs, f.1 < 8 := fun f hf => (G.ctOk _ (h5 f hf)).1
        have hm : (C, k) ∈ G.ct := by simpa using h.1.1
        have ok := (G.ctOk _ hm).2
        obtain ⟨N', U⟩ := upd_of (o' := dictOf (putL (atName k) (PyData.keyHash G.w.params (atName k)) (.str (atName k) (s.toks + 1)) u es) (putN (atName k) es n)) d.nd h3
        have fr : FRels G.w.params c.base ρ N (putA k b fs) (putL (atName k) (PyData.keyHash G.w.params (atName k)) (.str (atName k) (s.toks + 1)) u es) := h4.put k8 hk d.pop.top
        have hlen := fr.length
        have hl2 := putA_len (k := k) (v := b) (fs := fs)
        refine set_dict d.F c.X d.nw (InstAt.of_news d.nw h2 h3) rfl ok.se ok.po ok.tk ok.hd (h4.some _) rfl U (by omega) fun h' F' N1 => ?_
        have g : Grow ρ ρ N N' := grow_upd d.nd U dict_tup fun z => absurd z dict_lst
        have hxd := own_nd d.ow hρ
        rw [List.nodup_cons] at hxd
        have hxd := fun z => hxd.1 (List.mem_singleton.mpr z)
        refine q _ _ h.2 ⟨ρ, N', m, d.pop.pop.upd F' N1 U hρ (.tail _ (.head _)) dict_tup ⟨_, dx, _, _, rfl, upd_mem U _ h2 hxd, upd_new U, fr.mono g, fun f hf => ?_, by omega⟩⟩
        rcases putA_mem f hf with e | hf
        · rw [e]; exact hm
        · exact h5 f hf
    · exact h.elim
  · exact h.elim
end
end Mine
end
section
namespace Mine

noncomputable def plainE : PySem.Expr → Bool
  | .Starred .. => false
  | .Slice .. => false
  | _ => true
theorem star_cons {e : PySem.Expr} {rest : List PySem.Expr} {env : Env} (h : plainE e = true) : starEach (e :: rest) env = (false, eval e env) :: starEach rest env := by
  cases e <;> first | rfl | simp [plainE] at h
theorem back_cons {e : PySem.Expr} {rest : List PySem.Expr} {env : Env} {pos : Pos} (h : plainE e = true) : backTo pos (starEach (e :: rest) env) = (false, eval e env) :: backTo pos (starEach rest env) := by
  rw [star_cons h]; rfl
theorem back_any {env : Env} {pos : Pos} : ∀ {es : List PySem.Expr}, es.all plainE = true → (backTo pos (starEach es env)).any (·.1) = false
  | [], _ => rfl
  | e :: es, h => by
    rw [List.all_cons, Bool.and_eq_true] at h
    rw [back_cons h.1, List.any_cons, back_any h.2]
    rfl
theorem sub_plain {e : PySem.Expr} {o i : Value} (h : plainE e = true) : subscripted e false o i = operate [o, i] (getItem o i) := by
  cases e <;> first | rfl | simp [plainE] at h
theorem let_str {e : PySem.Expr} {x : Str} {t : Tok} (r : Value) : letTemporaryGo e (.str x t) r = pure () := by cases e <;> rfl

noncomputable def Idx (hp : List AO) (a i : AV) (k : AV → Prop) : Prop := match i with
  | .int x => (match a with
    | .str s => (0 ≤ x ∧ x < s.length ∧ s.length ≤ sizeLine) ∧ k (.str (Txt.item s x))
    | .tup l => (0 ≤ x ∧ x < 2 ^ 62) ∧ ∃ v, l[x.toNat]? = some v ∧ k v
    | a => (match seqOf hp a with
      | some l => (0 ≤ x ∧ x < 2 ^ 62) ∧ ∃ v, l[x.toNat]? = some v ∧ k v
      | none => False))
  | _ => False
noncomputable def Slc (a i j : AV) (k : AV → Prop) : Prop := match a, i, j with
  | .str s, .int x, .int y => s.length ≤ sizeLine ∧ k (.str (Txt.slice s (some x) (some y)))
  | _, _, _ => False
noncomputable def Upto (hp : List AO) (a j : AV) (k : AV → Prop) : Prop := match j with
  | .int y => (match seqOf hp a with
    | some l => (0 ≤ y ∧ l.length ≤ sizeLine) ∧ k (.lst (l.take y.toNat))
    | none => False)
  | _ => False

theorem natCast_min' (a b : Nat) : ((min a b : Nat) : Int) = min (a : Int) (b : Int) := by
  rcases Nat.le_total a b with h | h
  · rw [Nat.min_eq_left h, Int.min_eq_left (Int.ofNat_le.mpr h)]
  · rw [Nat.min_eq_right h, Int.min_eq_right (Int.ofNat_le.mpr h)]
theorem clip0 {y : Int} {n : Nat} (h : 0 ≤ y) : max 0 (min y (n : Int)) = ((min y.toNat n : Nat) : Int) := by
  rw [Int.max_eq_right (Int.le_min.mpr ⟨h, Int.natCast_nonneg _⟩), natCast_min', Int.toNat_of_nonneg h]
section
variable {G : Gl} {c : Cx G} {st : ASt} {fm : Fm} {s : Shared}
theorem TE.tup {elts : List PySem.Expr} {k : Nat} {pos : Pos} {P : AV → ASt → Prop} (h : TEs c (backTo pos (starEach elts c.env)) st fun as st1 => as.length ≤ sizeLine ∧ P (.tup as) st1) : TE c (.Tuple elts k pos) st P := by
  intro fm s hr Q q
  exact Tuple_ (h fm s hr _ fun as vs st1 s1 hl h1 r1 => r1.tup hl h1.1 h1.2 q)
theorem TE.lst {elts : List PySem.Expr} {pos : Pos} {P : AV → ASt → Prop} (h : TEs c (backTo pos (starEach elts c.env)) st fun as st1 => as.length ≤ sizeLine ∧ P (.lst as) st1) : TE c (.List elts pos) st P := by
  intro fm s hr Q q
  exact List_ (h fm s hr _ fun as vs st1 s1 hl h1 r1 => r1.lst hl h1.1 h1.2 q)
theorem TE.newL {elts : List PySem.Expr} {pos : Pos} {P : AV → ASt → Prop} (h : TEs c (backTo pos (starEach elts c.env)) st fun as st1 => as.length ≤ sizeLine ∧ P (.obj st1.heap.length) { st1 with heap := st1.heap ++ [.list as] }) : TE c (.List elts pos) st P := by
  intro fm s hr Q q
  exact List_ (h fm s hr _ fun as vs st1 s1 hl h1 r1 => r1.newL hl h1.1 h1.2 q)
theorem TEs.star {e : PySem.Expr} {rest : List PySem.Expr} {pos : Pos} {P : List AV → ASt → Prop} (hp : plainE e = true) (h : TE c e st fun a st1 => TEs c (backTo pos (starEach rest c.env)) st1 fun as st2 => P (a :: as) st2) :
    TEs c (backTo pos (starEach (e :: rest) c.env)) st P := by
  rw [back_cons hp]
  exact TEs.cons h

theorem RelD.listAt {a : AV} {v : Value} {l : List AV} {ρ : List (List Addr)} {N : Led} {m : Str → Option Value} (d : RelD c st fm s ρ N m) (r : RV c.base ρ N a v) (h : seqOf st.heap a = some l) :
    ∃ x vs, v = .ref x ∧ s.heap.IsList x vs.toArray ∧ RVs c.base ρ N l vs := by
  cases a <;> simp only [seqOf, Option.some.injEq, reduceCtorEq] at h
  · subst h
    cases r with
    | lst hm _ r => exact ⟨_, _, rfl, ⟨_, d.nw.get hm, rfl, _, rfl⟩, r⟩
    | lstB hm r =>
      obtain ⟨o, h1, h2⟩ := hm
      exact ⟨_, _, rfl, ⟨o, d.F.keep _ _ (c.B.stays _ _ h1), h2⟩, r⟩
  · split at h
    · rename_i i l' hi
      cases h
      cases r with
      | obj hρ =>
        obtain ⟨as, e1, x, vs, n, rfl, h2, h3⟩ := d.heap _ _ hi
        rw [hρ] at e1
        cases e1
        exact ⟨_, _, rfl, ⟨_, d.nw.get h2, rfl, _, rfl⟩, h3⟩
    · cases h
theorem idx_sound {a i : AV} {v u : Value} {value slice : PySem.Expr} {P : AV → ASt → Prop} (hp : plainE slice = true) (r : Rel c st ((fm.push a v).push i u) s) (h : Idx st.heap a i fun x => P x st) : Gives c (subscriptTail value slice v u) fm s P := by
  intro Q q
  unfold Idx at h
  split at h
  · obtain ⟨t, rfl⟩ := r.popInt
    have r := r.pop
    split at h
    · rename_i x _ _ s'
      obtain ⟨t', rfl⟩ := r.popStr
      have hsz := h.1.2.2
      rw [sizeLine_eq] at hsz
      have hfit : fitsSsize x = true := fitsSsize_of (N := 9223372036854775808) (by omega) (by omega) (Int.le_refl _)
      exact item_str hfit (by omega) h.1.2.1 (fun _ => q _ _ _ _ h.2 r.pop.str) (sub_plain hp) let_str
    · obtain ⟨⟨h1, h2⟩, w, h3, h4⟩ := h
      obtain ⟨ρ, N, m, d⟩ := r
      cases d.top with
      | tup hm hr =>
        obtain ⟨w', g1, g2⟩ := hr.get h3
        have hlt := (List.getElem?_eq_some_iff.mp g1).1
        exact item_tupleT ⟨_, d.nw.get hm, rfl, _, rfl⟩ (by omega) (by omega) (PySem.seqIndex_of h1 (by omega)) g1 (q _ _ _ _ h4 ⟨ρ, N, m, d.pop.push g2⟩) (sub_plain hp)
    · split at h
      · rename_i l hl
        obtain ⟨⟨h1, h2⟩, w, h3, h4⟩ := h
        obtain ⟨ρ, N, m, d⟩ := r
        obtain ⟨x, vs, rfl, g0, g3⟩ := d.pop.listAt d.top hl
        obtain ⟨w', g1, g2⟩ := g3.get h3
        exact tail_any g0.typeIs slot_list_getitem.lookup (wpAny_getItem_list g0 h1 (by omega) (by simpa using g1) (q _ _ _ _ h4 ⟨ρ, N, m, d.pop.push g2⟩)) (sub_plain hp)
      · exact h.elim
  · exact h.elim
theorem TE.idx {value slice : PySem.Expr} {pos : Pos} {P : AV → ASt → Prop} (hp : plainE slice = true) (h : TE c value st fun a st1 => TE c slice st1 fun i st2 => Idx st2.heap a i fun x => P x st2) : TE c (.Subscript value slice pos) st P := by
  intro fm s hr Q q
  exact Subscript_ (h fm s hr _ fun a v st1 s1 h1 r1 => h1 _ _ r1 _ fun i u st2 s2 h2 r2 => idx_sound hp r2 h2 Q q)
theorem TE.slc {value lo hi : PySem.Expr} {p pos : Pos} {P : AV → ASt → Prop} (h : TE c value st fun a st1 => TE c lo st1 fun i st2 => TE c hi st2 fun j st3 => Slc a i j fun x => P x st3) : TE c (.Subscript value (.Slice (some lo) (some hi) Option.none p) pos) st P := by
  intro fm s hr Q q
  refine Subscript_ (h fm s hr _ fun a v st1 s1 h1 r1 => wpAny_Slice (evalPart_some_step (h1 _ _ r1 _ fun i u st2 s2 h2 r2 => evalPart_some_step (h2 _ _ r2 _ fun j z st3 s3 h3 r3 => evalPart_none_step ?_))))
  unfold Slc at h3
  dsimp only at h3
  split at h3
  · obtain ⟨t, rfl⟩ := r3.popInt
    have r3 := r3.pop
    obtain ⟨t', rfl⟩ := r3.popInt
    have r3 := r3.pop
    obtain ⟨t'', rfl⟩ := r3.popStr
    have r3 := r3.pop
    obtain ⟨ρ, N, m, d⟩ := r3
    refine kba_turn (value' := .Name (PySem.Str.ofString "_") ⟨0, 0, 0, 0⟩) (fun _ => rfl) (slice_strN_ss_len d.F d.nw (fun h' t' k F' N' _ => q _ _ _ _ h3.2 ⟨ρ, N, m, (d.same F' N').push (.str _ _)⟩) rfl (fun _ => rfl) h3.1)
  · exact h3.elim
theorem TE.upto {x : Str} {xp : Pos} {hi : PySem.Expr} {p pos : Pos} {P : AV → ASt → Prop} (h : TE c (.Name x xp) st fun a st1 => TE c hi st1 fun j st2 => Upto st2.heap a j fun x => P x st2) : TE c (.Subscript (.Name x xp) (.Slice Option.none (some hi) Option.none p) pos) st P := by
  intro fm s hr Q q
  refine Subscript_ (h fm s hr _ fun a v st1 s1 h1 r1 => wpAny_Slice (evalPart_none_step (evalPart_some_step (h1 _ _ r1 _ fun j z st2 s2 h2 r2 => evalPart_none_step ?_))))
  unfold Upto at h2
  dsimp only at h2
  split at h2
  · split at h2
    · rename_i l hl
      obtain ⟨⟨h0, hz⟩, h2⟩ := h2
      obtain ⟨t, rfl⟩ := r2.popInt
      have r2 := r2.pop
      obtain ⟨ρ, N, m, d⟩ := r2
      obtain ⟨b, vs, rfl, g1, g2⟩ := d.listAt d.top hl
      have hlen := g2.length
      refine kmk_slice (lo := Option.none) (hi := some _) d.F d.nw g1 .none (.int _ _) (fun D h' F' N' fresh => ?_) rfl (fun _ => rfl) (by simp only [List.size_toArray]; omega)
      have fr : ∀ p ∈ N, p.1 ≠ D := fun p hp => Nat.ne_of_lt (fresh p hp)
      have d' := d.pop.frozen (k := s2.toks) F' N' fr
      refine q _ _ _ _ h2 ⟨ρ, _, m, d'.push (.lst (vs := vs.take _) (n := 0) ?_ (d.off fr) ((g2.take _).mono (grow_cons _)))⟩
      rename_i y _
      have e : slicePick vs.toArray Option.none (some y) Option.none = (vs.take y.toNat).toArray := by
        have e : sliceBounds Option.none (some y) Option.none vs.toArray.size = (((0 : Nat) : Int), ((min y.toNat vs.toArray.size : Nat) : Int), 1) := by
          simp only [sliceBounds, Option.getD_none, show (1 : Int) > 0 by decide, if_true, if_neg (show ¬ (y < 0) by omega)]
          congr 1
          congr 1
          exact clip0 (by omega)
        rw [kmk_pick_nat _ e]
        simp [kmk_take_min]
      rw [e]
      exact .head _
    · exact h2.elim
  · exact h2.elim
end
end Mine
end
section
namespace Mine

noncomputable def TF (G : Gl) (n : Nat) (f : Addr) (args : List AV) (hp : List AO) (P : AV → List AO → Prop) : Prop :=
  ∀ (c : Cx G), n ≤ c.lv → ∀ (env : List (Option AV)) (fm : Fm) (s : Shared) (vs : List Value) (Q : Value → Shared → Prop), args.length = vs.length → Rel c ⟨env, hp⟩ ⟨args ++ fm.as, vs ++ fm.vs, fm.xs⟩ s →
    (∀ r v hp' s', P r hp' → Rel c ⟨env, hp'⟩ (fm.push r v) s' → Q v s') → wpAny c.M c.A (call (.ref f) vs) Q noE s
section
variable {G : Gl} {c : Cx G} {st : ASt} {fm : Fm} {s : Shared}
theorem Rel.inK (r : Rel c st fm s) : G.K.In s.heap := by
  obtain ⟨ρ, N, m, d⟩ := r
  exact Frag.In.keeps c.X d.F.keep
theorem evalArgs_all {M : Model} {A : Around} {E : Value → Shared → Prop} {f : Value} {trees : List (Bool × Sem Value)} {Q : Args → Shared → Prop} (hs : trees.any (·.1) = false) (h : wpAny M A (spliced trees) (fun vs s' => Q ⟨vs, []⟩ s') E s) : wpAny M A (evalArgs f true trees []) Q E s := by
  cases trees with
  | nil =>
    unfold evalArgs
    show wpAny M A (spliced [] >>= _) Q E s
    refine wpAny_bind (wpAny_mono h (fun vs s' h' => ?_) fun _ _ x => x)
    refine wpAny_holding ?_
    exact wpAny_bind (wpAny_pure (wpAny_bind (wpAny_pure (wpAny_pure h'))))
  | cons p rest =>
    obtain ⟨b, x⟩ := p
    cases b with
    | true => simp at hs
    | false => exact evalArgs_plain h
theorem callWith_any {pos : Pos} {f : Value} {first : List Value} {args : List PySem.Expr} {Q : Value → Shared → Prop} {P : List AV → ASt → Prop} (hk : keepIn G.K f = true) (ha : args.all plainE = true) (hr : Rel c st fm s)
    (h : TEs c (backTo pos (starEach args c.env)) st P) (q : ∀ as vs st' s', as.length = vs.length → P as st' → Rel c st' ⟨as ++ fm.as, vs ++ fm.vs, fm.xs⟩ s' → wpAny c.M c.A (call f (first ++ vs)) Q noE s') :
    wpAny c.M c.A (callWith pos f first (backTo pos (starEach args c.env)) []) Q noE s :=
  callWith_of (P := fun h => G.K.In h) (by rw [back_any ha]; rfl) (keeps_K hk) (evalArgs_all (back_any ha) (h fm s hr _ fun as vs st' s' hl p r => ⟨r.inK, q as vs st' s' hl p r⟩))
theorem callWith_blt {pos : Pos} {id : String} {first : List Value} {args : List PySem.Expr} {Q : Value → Shared → Prop} {P : List AV → ASt → Prop} (ha : args.all plainE = true) (hr : Rel c st fm s)
    (h : TEs c (backTo pos (starEach args c.env)) st P) (q : ∀ as vs st' s', as.length = vs.length → P as st' → Rel c st' ⟨as ++ fm.as, vs ++ fm.vs, fm.xs⟩ s' → wpAny c.M c.A (call (.builtin id) (first ++ vs)) Q noE s') :
    wpAny c.M c.A (callWith pos (.builtin id) first (backTo pos (starEach args c.env)) []) Q noE s :=
  Calls.callWith_builtin (back_any ha) (evalArgs_all (back_any ha) (h fm s hr _ fun as vs st' s' hl p r => q as vs st' s' hl p r))
theorem callWith_typ {pos : Pos} {T : String} {args : List PySem.Expr} {Q : Value → Shared → Prop} {P : List AV → ASt → Prop} (ha : args.all plainE = true) (hr : Rel c st fm s)
    (h : TEs c (backTo pos (starEach args c.env)) st P) (q : ∀ as vs st' s', as.length = vs.length → P as st' → Rel c st' ⟨as ++ fm.as, vs ++ fm.vs, fm.xs⟩ s' → wpAny c.M c.A (call (.type T) vs) Q noE s') :
    wpAny c.M c.A (callWith pos (.type T) [] (backTo pos (starEach args c.env)) []) Q noE s :=
  PyProof.Rows.callWith_type (back_any ha) (evalArgs_all (back_any ha) (h fm s hr _ fun as vs st' s' hl p r => q as vs st' s' hl p r))

theorem TE.call {n : Nat} {x : Str} {f : Addr} {p pos : Pos} {args : List PySem.Expr} {P : AV → ASt → Prop} (hn : n ≤ c.lv) (hx : c.sc.names.lookup x = some .globalImplicit) (hd : (x == ("__debug__" : Str)) = false) (hg : nsIn G.K mainGlobals x = some (some (.ref f)))
    (hk : keepIn G.K (.ref f) = true) (ha : args.all plainE = true) (h : TEs c (backTo pos (starEach args c.env)) st fun as st1 => TF G n f as st1.heap fun r hp => P r { st1 with heap := hp }) : TE c (.Call (.Name x p) args [] pos) st P := by
  intro fm s hr Q q
  refine Call_Name rfl (name_any hr hx hd hg (callWith_any hk ha hr h fun as vs st' s' hl hf r => ?_))
  exact hf c hn st'.env fm s' vs Q hl r fun r v hp' s2 hp hr => q _ _ _ _ hp hr

noncomputable def notCall : PySem.Expr → Bool
  | .Call .. => false
  | _ => true
theorem base_plain {o : PySem.Expr} {name : Str} {env : Env} {t : Sem Value} (h : notCall o = true) : attributeBase o name env t = t := by
  cases o <;> first | rfl | simp [notCall] at h
theorem back_len {env : Env} {pos : Pos} : ∀ {es : List PySem.Expr}, es.all plainE = true → (backTo pos (starEach es env)).all (fun x => !x.1) = true
  | [], _ => rfl
  | e :: es, h => by
    rw [List.all_cons, Bool.and_eq_true] at h
    rw [back_cons h.1, List.all_cons, back_len h.2]
    rfl
theorem meth_rule {o : PySem.Expr} {name : Str} {apos pos : Pos} {args : List PySem.Expr} {Q : Value → Shared → Prop} (ho : notCall o = true) (ha : args.all plainE = true) (hl : args.length < 30) (hpos : (apos.endLine == pos.line) = true)
    (h : wpAny c.M c.A (eval o c.env) (fun ov s₁ => ∀ pl, wpAny c.M c.A (getMethod ov name pl) (fun fx s₂ => wpAny c.M c.A (callWith pos fx.1 fx.2 (backTo pos (starEach args c.env)) []) Q noE s₂) noE s₁) noE s) :
    wpAny c.M c.A (eval (.Call (.Attribute o name apos) args [] pos) c.env) Q noE s := by
  have hf : methodCallForm (args.length + ([] : List Keyword).length) (backTo pos (starEach args c.env)) (backToKw pos (keywordEach [] c.env)) = true := by
    unfold methodCallForm
    rw [back_len ha]
    simp [backToKw, keywordEach, hl]
  rw [arm_eval_Call, base_plain ho]
  refine wpAny_bind (wpAny_mono h (fun ov s₁ h₁ => wpAny_bind (wpAny_standAt ?_)) fun _ _ x => x)
  unfold methodCall
  rw [hf]
  refine wpAny_bind (wpAny_holding ?_)
  refine wpAny_mono (h₁ _) (fun fx s₂ h₂ => ?_) fun _ _ x => x
  unfold methodCallPos
  simp only [hpos, Bool.not_true, Bool.false_or, if_true]
  exact wpAny_bind (wpAny_pure h₂)
theorem TE.meth {n : Nat} {o : PySem.Expr} {name : Str} {C f : Addr} {apos pos : Pos} {args : List PySem.Expr} {P : AV → ASt → Prop} (hn : n ≤ c.lv) (hm : (name, C, f) ∈ G.mt) (ho : notCall o = true) (ha : args.all plainE = true) (hl : args.length < 30) (hpos : (apos.endLine == pos.line) = true)
    (h : TE c o st fun a st1 => ∃ i fs, a = .obj i ∧ st1.heap[i]? = some (.inst C fs) ∧ TEs c (backTo pos (starEach args c.env)) st1 fun as st2 => TF G n f (.obj i :: as) st2.heap fun r hp => P r { st2 with heap := hp }) :
    TE c (.Call (.Attribute o name apos) args [] pos) st P := by
  intro fm s hr Q q
  obtain ⟨mk, hni⟩ := G.mtOk _ hm
  refine meth_rule ho ha hl hpos (h fm s hr _ fun a v st1 s1 h1 r1 pl => ?_)
  obtain ⟨i, fs, rfl, hi, h1⟩ := h1
  have r0 := r1
  obtain ⟨ρ, N, m, d⟩ := r1
  cases d.top with
  | obj hρ =>
    obtain ⟨as, e1, x, dx, es, k, rfl, h2, h3, h4, h5, h6⟩ := d.heap _ _ hi
    rw [hρ] at e1
    cases e1
    have k8 : ∀ f ∈ fs, f.1 < 8 := fun f hf => (G.ctOk _ (h5 f hf)).1
    refine method_inst d.F c.X (InstAt.of_news d.nw h2 h3) mk.pg mk.fi mk.fn (h4.miss k8 hni) ?_
    refine callWith_any mk.kp ha r0 h1 fun as vs st' s' hl hf r => ?_
    refine hf c hn st'.env fm s' (_ :: vs) Q (by simp [hl]) ?_ fun r v hp' s2 hp hr => q _ _ _ _ hp hr
    obtain ⟨ρ', N', m', d'⟩ := r
    refine ⟨ρ', N', m', d'.fmTo ?_ rfl⟩
    obtain ⟨vs1, vs2, e1, p1, p2⟩ := d'.pend.split
    obtain ⟨rfl, rfl⟩ := List.append_inj e1 (by rw [p1.length, hl])
    cases p2 with
    | cons p3 p4 => exact .cons p3 (p1.append p4)
end
end Mine
end
section
namespace Mine

inductive AFl where
  | next | brk | cont | ret (a : AV)
noncomputable def retOf : AFl → AV
  | .ret a => a
  | _ => .none
noncomputable def FlowOk {G : Gl} (c : Cx G) (st : ASt) (fm : Fm) (s : Shared) : AFl → Flow → Prop
  | .next, .next => Rel c st fm s
  | .brk, .brk => Rel c st fm s
  | .cont, .cont => Rel c st fm s
  | .ret a, .ret v => Rel c st (fm.push a v) s
  | _, _ => False
noncomputable def Does {G : Gl} (c : Cx G) (t : Sem Flow) (st : ASt) (P : AFl → ASt → Prop) : Prop :=
  ∀ fm s, Rel c st fm s → ∀ Q : Flow → Shared → Prop, (∀ fl f st' s', P fl st' → FlowOk c st' fm s' fl f → Q f s') → wpAny c.M c.A t Q noE s
abbrev TS {G : Gl} (c : Cx G) (b : Stmt) (st : ASt) (P : AFl → ASt → Prop) : Prop := Does c (exec b c.env) st P
abbrev TSs {G : Gl} (c : Cx G) (b : List Stmt) (st : ASt) (P : AFl → ASt → Prop) : Prop := Does c (execs b c.env) st P

theorem env_pack {hb : Heap} {ρ : List (List Addr)} {N : Led} : ∀ (env : List (Option AV)) {look : Nat → Value → Prop}, (∀ (i : Nat) (a : AV), env[i]? = some (some a) → ∃ v, look i v ∧ RV hb ρ N a v) →
    ∃ eas evs, RVs hb ρ N eas evs ∧ ∀ ρ' N', RVs hb ρ' N' eas evs → ∀ (i : Nat) (a : AV), env[i]? = some (some a) → ∃ v, look i v ∧ RV hb ρ' N' a v
  | [], _, _ => ⟨[], [], .nil, fun _ _ _ i a e => by simp at e⟩
  | o :: env, look, h => by
    obtain ⟨eas, evs, h1, h2⟩ := env_pack env (look := fun i v => look (i + 1) v) fun i a e => h (i + 1) a (by simpa using e)
    cases o with
    | none =>
      refine ⟨eas, evs, h1, fun ρ' N' r i a e => ?_⟩
      cases i with
      | zero => simp at e
      | succ i => exact h2 ρ' N' r i a (by simpa using e)
    | some b =>
      obtain ⟨v, g1, g2⟩ := h 0 b rfl
      refine ⟨b :: eas, v :: evs, .cons g2 h1, fun ρ' N' r i a e => ?_⟩
      cases r with
      | cons r1 r2 =>
        cases i with
        | zero => simp at e; subst e; exact ⟨v, g1, r1⟩
        | succ i => exact h2 ρ' N' r2 i a (by simpa using e)
theorem lookup_append {x : Str} : ∀ {l l' : List (Str × Value)}, (l ++ l').lookup x = (l.lookup x).or (l'.lookup x)
  | [], _ => by simp
  | p :: l, l' => by
    rw [List.cons_append, List.lookup_cons, List.lookup_cons]
    cases h : x == p.1 with
    | true => simp
    | false => simp [lookup_append (l := l)]
theorem zip_rev_miss {x : Str} : ∀ {names : List Str} {vs : List Value}, x ∉ names → (names.zip vs).reverse.lookup x = none
  | [], _, _ => by simp
  | _ :: _, [], _ => by simp
  | n :: names, v :: vs, h => by
    rw [List.zip_cons_cons, List.reverse_cons, lookup_append, zip_rev_miss fun hx => h (.tail _ hx)]
    have hne : x ≠ n := fun e => h (e ▸ .head _)
    simp [List.lookup_cons, beq_eq_false_iff_ne.mpr hne]
theorem zip_rev_look : ∀ {names : List Str} {vs : List Value}, names.Nodup → ∀ {i : Nat} {x : Str} {v : Value}, names[i]? = some x → vs[i]? = some v → (names.zip vs).reverse.lookup x = some v
  | [], _, _, i, _, _, h, _ => by simp at h
  | _ :: _, [], _, i, _, _, _, h => by simp at h
  | n :: names, w :: vs, nd, i, x, v, h1, h2 => by
    rw [List.nodup_cons] at nd
    rw [List.zip_cons_cons, List.reverse_cons, lookup_append]
    cases i with
    | zero =>
      cases h1; cases h2
      rw [zip_rev_miss nd.1]
      simp
    | succ i => rw [zip_rev_look nd.2 (by simpa using h1) (by simpa using h2)]; rfl

set_option genInjectivity false in
structure DefAt (K : Frag) (f : Addr) (names : List Str) (body : List Stmt) (scope : Scope) (das : List AV) (qual : Str) (cdv : Value) : Prop where
  at' : ∃ oc od osl name params dV kV doc pm an ct dvs, K.lookup f = some ⟨oc, od, .func (fnOf name qual params body scope dV kV doc pm an cdv ct), osl⟩ ∧ (∀ hb ρ N, RVs hb ρ N das dvs) ∧
    ∀ (s : Shared), K.In s.heap → ∀ vs : List Value, vs.length + das.length = names.length → BindsTo s (fnOf name qual params body scope dV kV doc pm an cdv ct) ⟨vs, []⟩ (names.zip (vs ++ dvs))
  code : codeIn K cdv qual = true
  pre : scope.names.take names.length = names.map fun x => (x, NameKind.local)
  nd : (scope.names.map (·.1)).Nodup
  co : scope.isCoroutine = false
  gen : scope.isGenerator = false
  kind : scope.kind = .function
  cell : ∀ x ∈ scope.names, x.2 ≠ .cell

section
variable {G : Gl}
theorem pre_names {names : List Str} {scope : Scope} (h : scope.names.take names.length = names.map fun x => (x, NameKind.local)) {i : Nat} {x : Str} (hx : names[i]? = some x) : scope.names[i]? = some (x, .local) := by
  have hlt := (List.getElem?_eq_some_iff.mp hx).1
  have e := congrArg (fun l => l[i]?) h
  simp only [List.getElem?_take, if_pos hlt, List.getElem?_map, hx] at e
  exact e
theorem names_nodup {names : List Str} {scope : Scope} (h : scope.names.take names.length = names.map fun x => (x, NameKind.local)) (nd : (scope.names.map (·.1)).Nodup) : names.Nodup := by
  have e := congrArg (List.map (·.1)) h
  have q : (names.map fun x => (x, NameKind.local)).map (·.1) = names := by simp [List.map_map, Function.comp_def]
  rw [q, List.map_take] at e
  rw [← e]
  exact nd.sublist (List.take_sublist _ _)
theorem code_in {c : Cx G} {n : Nat} {f : Addr} {names : List Str} {body : List Stmt} {scope : Scope} {das : List AV} {qual : Str} {cdv : Value} (D : DefAt G.K f names body scope das qual cdv) {A : Around} (hAf : A.frames = some (c.env :: c.outer)) (hAh : A.handled = none)
    (hAd : A.depth + 3 * n < recursionLimit) (hAd0 : A.depth < recursionLimit) (hAu : A.units + 3 + 40 * n + 400 < cLine) (hAd1 : A.depth + 1 + 3 * n < recursionLimit)
    {env : List (Option AV)} {hp : List AO} {fm : Fm} {s : Shared} {args : List AV} {vs : List Value} {P : AV → List AO → Prop} {R : Result → Shared → Prop} (hl : args.length = vs.length) (hn : args.length + das.length = names.length)
    (hr : Rel c ⟨env, hp⟩ ⟨args ++ fm.as, vs ++ fm.vs, fm.xs⟩ s)
    (hb : ∀ c' : Cx G, c'.lv = n → c'.sc = scope → TSs c' body ⟨(args ++ das).map some ++ List.replicate (scope.names.length - names.length) none, hp⟩ fun fl st' => P (retOf fl) st'.heap)
    (q : ∀ r v hp' s', P r hp' → Rel c ⟨env, hp'⟩ (fm.push r v) s' → R (.ok (.ret v)) s') : codeAny c.M A (.call (.ref f) ⟨vs, []⟩) R s := by
  obtain ⟨oc, od, osl, name, params, dV, kV, doc, pm, an, ct, dvs, hlook, hdv, hbind⟩ := D.at'
  have hK := hr.inK
  obtain ⟨ρ, N, m, d⟩ := hr
  obtain ⟨vs1, vs2, e1, p1, p2⟩ := d.pend.split
  obtain ⟨rfl, rfl⟩ := List.append_inj e1 (by rw [p1.length, hl])
  obtain ⟨eas, evs, he1, he2⟩ := env_pack env (look := fun i v => ∃ x, c.sc.names[i]? = some (x, .local) ∧ m x = some v) fun i a e => by
    obtain ⟨x, v, h1, h2, h3⟩ := d.env i a e
    exact ⟨v, ⟨x, h1, h2⟩, h3⟩
  obtain ⟨cas, cvs, hc1, hc2⟩ := env_pack (c.ci.map fun p => some (AV.obj p.2)) (look := fun j v => ∃ x i a, c.ci[j]? = some (x, i) ∧ c.cells.lookup x = some a ∧ v = .ref a) fun j a e => by
    rw [List.getElem?_map] at e
    obtain ⟨⟨x, i⟩, hj, e⟩ := Option.map_eq_some_iff.mp e
    cases e
    obtain ⟨b, h1, h2⟩ := d.cel x i (List.mem_of_getElem? hj)
    exact ⟨_, ⟨x, i, b, hj, h1, rfl⟩, h2⟩
  have hE := he1.append hc1
  have hpar := p1.append (hdv c.base ρ N)
  have hz : ∀ y ∈ names.zip (vs ++ dvs), scope.names.lookup y.1 = some .local := by
    intro y hy
    obtain ⟨i, hi⟩ := List.getElem?_of_mem (List.of_mem_zip hy).1
    exact lookup_of_get D.nd (pre_names D.pre hi)
  refine code_def c.B d.F c.X d.nw c.T hAf rfl c.hk hlook D.code hAd0 (hbind s hK vs (by omega)) hz (fun g L' h₁ FG F' N' B' X' T' => ?_) D.co D.gen D.kind D.cell
  let c' : Cx G := ⟨A.deeper (envOf qual scope L' f cdv), qual, scope, f, cdv, c.env :: c.outer, A, c.base, g, L', c.gens, c.drawn, c.os, n, B', X', T', [], [], by simp [Around.deeper, hAf]; rfl, hAh, D.kind, D.nd, by simp only [Around.deeper]; omega, by simp only [Around.deeper]; omega⟩
  have d' : RelD c' ⟨(args ++ das).map some ++ List.replicate (scope.names.length - names.length) none, hp⟩ ⟨(eas ++ cas) ++ fm.as, (evs ++ cvs) ++ fm.vs, fm.xs⟩ { heap := h₁, gens := s.gens, drawn := s.drawn, toks := s.toks + (names.zip (vs ++ dvs)).length, os := s.os } ρ N (fun y => (names.zip (vs ++ dvs)).reverse.lookup y) := by
    refine ⟨F', N', d.nd, d.ow, d.len, fun i a e => ?_, d.heap, hE.append p2, d.xs, d.g, fun _ _ h => nomatch h⟩
    have hi : i < (args ++ das).length := by
      by_cases hi : i < (args ++ das).length
      · exact hi
      · rw [List.getElem?_append_right (by simpa using hi)] at e
        rw [List.getElem?_replicate] at e
        split at e <;> simp at e
    rw [List.getElem?_append_left (by simpa using hi), List.getElem?_map] at e
    obtain ⟨b, hb1, hb2⟩ := Option.map_eq_some_iff.mp e
    cases hb2
    obtain ⟨v, hv1, hv2⟩ := hpar.get hb1
    have hin : i < names.length := by rw [← hn]; simpa using hi
    exact ⟨names[i], v, pre_names D.pre (List.getElem?_eq_getElem hin), zip_rev_look (names_nodup D.pre D.nd) (List.getElem?_eq_getElem hin) hv1, hv2⟩
  have fin : ∀ r v st' s', P r st'.heap → Rel c' st' (Fm.push ⟨(eas ++ cas) ++ fm.as, (evs ++ cvs) ++ fm.vs, fm.xs⟩ r v) s' → LeaveK c.h₀ c.L m g R v s' := by
    intro r v st' s' hP hr'
    obtain ⟨ρ', N2, m', d2⟩ := hr'
    refine leaveK_ d2.F d2.nw fun F3 N3 => q r v st'.heap s' hP ⟨ρ', N2, m, ?_⟩
    obtain ⟨evs1, vs3, e3, p3, p4⟩ := d2.pop.pend.split
    obtain ⟨e4, rfl⟩ := List.append_inj e3 (by rw [p3.length, hE.length])
    obtain ⟨w1, w2, e5, p5, p6⟩ := p3.split
    obtain ⟨rfl, rfl⟩ := List.append_inj (e4.trans e5) (by rw [p5.length, he1.length])
    refine ⟨F3, N3, d2.nd, d2.ow, d2.len, fun i a e => ?_, d2.heap, .cons d2.top p4, d2.xs, d2.g, fun x i hm => ?_⟩
    · obtain ⟨v, ⟨x, h1, h2⟩, h3⟩ := he2 ρ' N2 p5 i a e
      exact ⟨x, v, h1, h2, h3⟩
    · obtain ⟨j, hj⟩ := List.getElem?_of_mem hm
      obtain ⟨v, ⟨x', i', a, h1, h2, h3⟩, h4⟩ := hc2 ρ' N2 p6 j (.obj i) (by rw [List.getElem?_map, hj]; rfl)
      rw [hj] at h1
      cases h1
      subst h3
      exact ⟨a, h2, h4⟩
  refine wpAny_mono (hb c' rfl rfl ⟨(eas ++ cas) ++ fm.as, (evs ++ cvs) ++ fm.vs, fm.xs⟩ _ ⟨ρ, N, _, d'⟩ (fun fl s' => LeaveK c.h₀ c.L m g R (match fl with | .ret v => v | _ => .none) s') fun fl fw st' s' hP hf => ?_) (fun _ _ x => x) fun _ _ x => x.elim
  cases fl <;> cases fw <;> first | exact hf.elim | skip
  · exact fin .none .none st' s' hP hf.none
  · exact fin .none .none st' s' hP hf.none
  · exact fin .none .none st' s' hP hf.none
  · exact fin _ _ st' s' hP hf
theorem TF.of {n : Nat} {f : Addr} {names : List Str} {body : List Stmt} {scope : Scope} {das : List AV} {qual : Str} {cdv : Value} (D : DefAt G.K f names body scope das qual cdv) {args : List AV} {hp : List AO} {P : AV → List AO → Prop}
    (hn : args.length + das.length = names.length)
    (hb : ∀ c' : Cx G, n ≤ c'.lv → c'.sc = scope → TSs c' body ⟨(args ++ das).map some ++ List.replicate (scope.names.length - names.length) none, hp⟩ fun fl st' => P (retOf fl) st'.heap) : TF G (n + 1) f args hp P := by
  intro c hlv env fm s vs Q hl hr q
  have h1 := c.hd
  have h2 := c.hu
  refine wpAny_call (code_in (n := c.lv - 1) D c.hA c.hh (by omega) (by omega) (by omega) (by omega) hl hn hr (fun c' h => hb c' (by omega)) fun r v hp' s' hP hr => q r v hp' s' hP hr)
end
end Mine
end
section
namespace Mine
section
variable {G : Gl}
theorem under_frames (A : Around) (C : Addr) (vals : List Value) : (A.under (.builtin "type.__call__" ⟨.ref C :: vals, []⟩)).frames = A.frames := rfl
theorem under_handled (A : Around) (C : Addr) (vals : List Value) : (A.under (.builtin "type.__call__" ⟨.ref C :: vals, []⟩)).handled = A.handled := rfl
theorem TF.new {n : Nat} {C fI : Addr} {names : List Str} {body : List Stmt} {scope : Scope} {das : List AV} {qual : Str} {cdv : Value} (W : NewOk G.K C fI) (D : DefAt G.K fI names body scope das qual cdv) {args : List AV} {hp : List AO} {P : AV → List AO → Prop}
    (hn : args.length + 1 + das.length = names.length)
    (hb : ∀ c' : Cx G, n ≤ c'.lv → c'.sc = scope → TSs c' body ⟨((.obj hp.length :: args) ++ das).map some ++ List.replicate (scope.names.length - names.length) none, hp ++ [.inst C []]⟩ fun fl st' => retOf fl = .none ∧ P (.obj hp.length) st'.heap) : TF G (n + 1) C args hp P := by
  intro c hlv env fm s vs Q hl hr q
  have h1 := c.hd
  have h2 := c.hu
  obtain ⟨ρ, N, m, d⟩ := hr
  refine call_cls d.F c.X d.nw W.made W.fi W.fn fun x dx h' F' N' fresh hx => ?_
  have f1 : ∀ p ∈ N, p.1 ≠ dx := fun p hp => Nat.ne_of_lt (fresh p hp)
  have f2 : ∀ p ∈ N, p.1 ≠ x := fun p hp => Nat.ne_of_lt (Nat.lt_trans (fresh p hp) hx)
  have hne : x ≠ dx := Nat.ne_of_gt hx
  have hf : ∀ p ∈ N, p.1 ∉ [x, dx] := fun p hp => by
    rw [List.mem_cons, List.mem_singleton, not_or]
    exact ⟨f2 p hp, f1 p hp⟩
  have hs : ∀ p ∈ N, p ∈ (x, instObj C dx) :: (dx, dictOf [] 0) :: N := fun p hp => .tail _ (.tail _ hp)
  have nd : (((x, instObj C dx) :: (dx, dictOf [] 0) :: N).map (·.1)).Nodup := nd_cons (nd_cons d.nd f1) fun p hp => by
    rcases List.mem_cons.mp hp with rfl | hp
    · exact hne.symm
    · exact f2 p hp
  have g : Grow ρ (ρ ++ [[x, dx]]) N ((x, instObj C dx) :: (dx, dictOf [] 0) :: N) := grow_own hs hf
  have d' := d.own (k := s.toks) (o := .inst C []) F' N' nd hs hf (by simp [hne]) ⟨x, dx, [], 0, rfl, .head _, .tail _ (.head _), .nil, by simp, by simp⟩
  obtain ⟨vs1, vs2, e1, p1, p2⟩ := d'.pend.split
  obtain ⟨rfl, rfl⟩ := List.append_inj e1 (by rw [p1.length, hl])
  have ob : RV c.base (ρ ++ [[x, dx]]) ((x, instObj C dx) :: (dx, dictOf [] 0) :: N) (.obj hp.length) (.ref x) := .obj (as := [dx]) (by simp [d.len])
  have r' : Rel c ⟨env, hp ++ [.inst C []]⟩ ⟨(.obj hp.length :: args) ++ (fm.push (.obj hp.length) (.ref x)).as, (.ref x :: vs) ++ (fm.push (.obj hp.length) (.ref x)).vs, fm.xs⟩ { s with heap := h' } :=
    ⟨_, _, m, d'.fmTo (.cons ob (p1.append (.cons ob p2))) rfl⟩
  have u1 := depth_under_make c.A C vs
  have u2 := units_under_make c.A C vs
  refine code_in (A := c.A.under (.builtin "type.__call__" ⟨.ref C :: vs, []⟩)) (n := c.lv - 1) (fm := fm.push (.obj hp.length) (.ref x)) D ((under_frames _ _ _).trans c.hA) ((under_handled _ _ _).trans c.hh) (by omega) (by omega) (by omega) (by omega) (by simp [hl]) (by simp; omega) r' (P := fun r hp' => r = .none ∧ P (.obj hp.length) hp')
    (fun c' h hs => hb c' (by omega) hs) fun r v hp' s' hP hr => ?_
  obtain ⟨rfl, hP⟩ := hP
  have hv := hr.popNone
  subst hv
  exact ⟨rfl, q _ _ _ _ hP hr.pop⟩
end

section
variable {G : Gl} {c : Cx G} {st : ASt} {fm : Fm} {s : Shared}
theorem TSs.nil {P : AFl → ASt → Prop} (h : P .next st) : TSs c [] st P := fun _ _ hr _ q => wpAny_execs_nil (q .next .next _ _ h hr)
theorem TSs.cons {b : Stmt} {rest : List Stmt} {P : AFl → ASt → Prop} (h : TS c b st fun fl st1 => match fl with | .next => TSs c rest st1 P | fl => P fl st1) : TSs c (b :: rest) st P := by
  intro fm s hr Q q
  refine wpAny_execs_cons (h fm s hr _ fun fl f st1 s1 h1 r1 => ?_)
  cases fl <;> cases f <;> first | exact r1.elim | skip
  · exact h1 fm s1 r1 Q q
  · exact q .brk .brk _ _ h1 r1
  · exact q .cont .cont _ _ h1 r1
  · exact q (.ret _) (.ret _) _ _ h1 r1
theorem TS.ret {e : PySem.Expr} {pos : Pos} {P : AFl → ASt → Prop} (h : TE c e st fun a st1 => P (.ret a) st1) : TS c (.Return (some e) pos) st P := by
  intro fm s hr Q q
  exact wpAny_Return_some (h fm s hr _ fun a v st1 s1 h1 r1 => q (.ret a) (.ret v) _ _ h1 r1)
theorem TS.ret0 {pos : Pos} {P : AFl → ASt → Prop} (h : P (.ret .none) st) : TS c (.Return none pos) st P := by
  intro fm s hr Q q
  exact wpAny_Return_none (q (.ret .none) (.ret .none) _ _ h hr.none)
theorem TS.brk {pos : Pos} {P : AFl → ASt → Prop} (h : P .brk st) : TS c (.Break pos) st P := fun _ _ hr _ q => wpAny_Break (q .brk .brk _ _ h hr)
theorem TS.cont {pos : Pos} {P : AFl → ASt → Prop} (h : P .cont st) : TS c (.Continue pos) st P := fun _ _ hr _ q => wpAny_Continue (q .cont .cont _ _ h hr)
theorem TS.pass {pos : Pos} {P : AFl → ASt → Prop} (h : P .next st) : TS c (.Pass pos) st P := fun _ _ hr _ q => wpAny_Pass (q .next .next _ _ h hr)
theorem TS.ife {t : PySem.Expr} {b o : List Stmt} {pos : Pos} {P : AFl → ASt → Prop} (h : TT c t st fun x st1 => fork x (TSs c b st1 P) (TSs c o st1 P)) : TS c (.If t b o pos) st P := by
  intro fm s hr Q q
  exact wpAny_If (h fm s hr _ fun x st1 s1 h1 r1 => fork_ite ⟨fun hb => h1.1 hb fm s1 r1 Q q, fun hb => h1.2 hb fm s1 r1 Q q⟩)
theorem noE_own : PassesOwn c.M c.A c.env noE := fun _ _ h => h.elim
theorem store_sound {i : Nat} {x : Str} {a : AV} {v : Value} {Q : Unit → Shared → Prop} (hx : c.sc.names[i]? = some (x, .local)) (r : Rel c st (fm.push a v) s) (q : ∀ s', Rel c { st with env := st.env.set i (some a) } fm s' → Q () s') : wpAny c.M c.A (storeName c.env x v) Q noE s := by
  obtain ⟨ρ, N, m, d⟩ := r
  refine storeX_L d.F d.nw (fun h' F' N' => q _ ⟨ρ, N, _, F', N', d.nd, d.ow, d.len, fun j b e => ?_, d.heap, d.pop.pend, d.xs, d.g, d.cel⟩) c.hk (lookup_of_get c.nd hx)
  by_cases hj : j = i
  · subst hj
    have hlt : j < st.env.length := by
      have := (List.getElem?_eq_some_iff.mp e).1
      simpa using this
    rw [List.getElem?_set_self hlt] at e
    cases e
    exact ⟨x, v, hx, if_pos rfl, d.top⟩
  · rw [List.getElem?_set_ne (fun e => hj e.symm)] at e
    obtain ⟨y, u, h1, h2, h3⟩ := d.env j b e
    refine ⟨y, u, h1, ?_, h3⟩
    rw [if_neg]
    · exact h2
    · intro e'
      subst e'
      have g1 : (c.sc.names.map (·.1))[j]? = some y := by simp [h1]
      have g2 : (c.sc.names.map (·.1))[i]? = some y := by simp [hx]
      exact hj ((List.getElem?_inj (List.getElem?_eq_some_iff.mp g1).1 c.nd).mp (g1.trans g2.symm))
theorem TS.set {i : Nat} {x : Str} {e : PySem.Expr} {p pos : Pos} {P : AFl → ASt → Prop} (hx : c.sc.names[i]? = some (x, .local)) (hw : swapsWith e (some (.Name x p)) pos.line c.env = pure false) (h : TE c e st fun a st1 => P .next { st1 with env := st1.env.set i (some a) }) :
    TS c (.Assign [.Name x p] e pos) st P := by
  intro fm s hr Q q
  exact wpAny_Assign_Name (h fm s hr _ fun a v st1 s1 h1 r1 => store_sound hx r1 fun s' r' => q .next .next _ _ h1 r') hw
theorem TS.setAttr {o e : PySem.Expr} {k : Nat} {p pos : Pos} {P : AFl → ASt → Prop} (hk : k < 8) (hw : swapsWith e (some (.Attribute o (atName k) p)) pos.line c.env = pure false)
    (h : TE c e st fun b st1 => TE c o st1 fun a st2 => SetAttr G st2.heap a k b fun hp => P .next { st2 with heap := hp }) : TS c (.Assign [.Attribute o (atName k) p] e pos) st P := by
  intro fm s hr Q q
  exact plainObj_wpAny_Assign_Attribute (h fm s hr _ fun b v st1 s1 h1 r1 => h1 _ _ r1 _ fun a u st2 s2 h2 r2 => setAttr_sound (P := fun st' => P .next st') hk r2 h2 fun st' s' p r => q .next .next _ _ p r) hw
theorem TS.exp {e : PySem.Expr} {pos : Pos} {P : AFl → ASt → Prop} (hi : interactive c.env = false) (hw : swapsWith e none pos.line c.env = pure false) (h : TE c e st fun _ st1 => P .next st1) : TS c (.Expr e pos) st P := by
  intro fm s hr Q q
  exact wpAny_Expr_any (h fm s hr _ fun a v st1 s1 h1 r1 => q .next .next _ _ h1 r1.pop) hi hw
end
end Mine
end
section
namespace Mine
section
variable {G : Gl} {c : Cx G} {st : ASt} {fm : Fm} {s : Shared}
theorem TS.whl {t : PySem.Expr} {b : List Stmt} {pos : Pos} {P : AFl → ASt → Prop} (inv : ASt → Prop) (μ : ASt → Nat) (h0 : inv st)
    (h : ∀ st1, inv st1 → TT c t st1 fun x st2 => fork x (TSs c b st2 fun fl st3 => match fl with | .brk => P .next st3 | .ret a => P (.ret a) st3 | _ => inv st3 ∧ μ st3 < μ st1) (P .next st2)) : TS c (.While t b [] pos) st P := by
  intro fm s hr Q q
  have all : ∀ (n : Nat) (st1 : ASt), μ st1 < n → inv st1 → ∀ s1, Rel c st1 fm s1 → WhlRest G.prog G.w c.A noE c.env t b [] Q 1 s1 := by
    intro n
    induction n with
    | zero => intro st1 hm; exact absurd hm (Nat.not_lt_zero _)
    | succ n ih =>
      intro st1 hm hi s1 r1
      refine whl_turn noE_own (h st1 hi fm s1 r1 _ fun x st2 s2 h2 r2 => ?_)
      cases x with
      | false => exact WhlIf.no rfl (wpAny_execs_nil (q .next .next _ _ (h2.2 rfl) r2))
      | true =>
        refine WhlIf.yes rfl (h2.1 rfl fm s2 r2 _ fun fl f st3 s3 h3 r3 => ?_)
        cases fl <;> cases f <;> first | exact r3.elim | skip
        · exact ih st3 (by omega) h3.1 s3 r3
        · exact q .next .next _ _ h3 r3
        · exact ih st3 (by omega) h3.1 s3 r3
        · exact q (.ret _) (.ret _) _ _ h3 r3
  exact whl_start 1 (all _ st (Nat.lt_succ_self _) h0 s hr)

theorem RelD.touchX {d : Addr} {o o' : Obj} {as : List AV} {vs : List Value} {xs : Led} {ρ : List (List Addr)} {N : Led} {m : Str → Option Value} {h' : Heap} {k : Nat} (r : RelD c st ⟨as, vs, (d, o) :: xs⟩ s ρ N m) (hx : ∀ p ∈ xs, p.1 ≠ d) (hs : Heap.SameBut d s.heap h') (ho : h'.get? d = some o')
    (h1 : o'.cls ≠ .type "list" ∧ o'.cls ≠ .type "tuple") : ∃ N', RelD c st ⟨as, vs, (d, o') :: xs⟩ { s with heap := h', toks := k } ρ N' m := by
  obtain ⟨x1, x2, x3⟩ := r.xs _ (.head _)
  obtain ⟨N', U⟩ := upd_of (o' := o') r.nd x1
  have hd := r.nw _ x1
  refine ⟨N', r.updX (fm := ⟨as, vs, xs⟩) ⟨?_, fun b y e => ?_, r.F.above⟩ (fun p hp => ?_) U hx h1⟩
  · obtain ⟨y, es, ep, g1, g2⟩ := r.F.ns
    exact ⟨y, es, ep, (hs.2 _ (Ne.symm hd.2.1)).trans g1, g2⟩
  · have hb : b ≠ d := fun e' => by subst e'; rw [hd.2.2] at e; cases e
    exact (hs.2 b hb).trans (r.F.keep b y e)
  · obtain ⟨pre, post, e1, rfl, e3, e4⟩ := U.split
    rcases List.mem_append.mp hp with hp | hp
    · have q := r.nw p (e1 ▸ List.mem_append_left _ hp)
      exact ⟨(hs.2 _ (e3 p hp)).trans q.1, q.2⟩
    · rcases List.mem_cons.mp hp with rfl | hp
      · exact ⟨ho, hd.2⟩
      · have q := r.nw p (e1 ▸ List.mem_append_right _ (.tail _ hp))
        exact ⟨(hs.2 _ (e4 p hp)).trans q.1, q.2⟩
theorem RelD.dropX {d : Addr} {o : Obj} {as : List AV} {vs : List Value} {xs : Led} {ρ : List (List Addr)} {N : Led} {m : Str → Option Value} {h' : Heap} {k : Nat} (r : RelD c st ⟨as, vs, (d, o) :: xs⟩ s ρ N m) (hx : ∀ p ∈ xs, p.1 ≠ d) (hs : Heap.ExtBut d s.heap h') :
    ∃ N', RelD c st ⟨as, vs, xs⟩ { s with heap := h', toks := k } ρ N' m := by
  obtain ⟨x1, x2, x3⟩ := r.xs _ (.head _)
  have hd := r.nw _ x1
  have hm : ∀ p, p ∈ N.filter (fun p => decide (p.1 ≠ d)) ↔ p ∈ N ∧ p.1 ≠ d := fun p => by simp
  have g : Grow ρ ρ N (N.filter fun p => decide (p.1 ≠ d)) := by
    refine ⟨fun q y hq hz => (hm _).mpr ⟨hq, fun e => ?_⟩, fun _ _ h => h, fun _ _ _ h => h⟩
    have e : q = d := e
    subst e
    have : y = o := mem_one r.nd hq x1
    subst this
    rcases hz with ⟨vs, hz⟩ | ⟨⟨vs, n, hz⟩, _⟩
    · exact x3.2 (by rw [hz])
    · exact x3.1 (by rw [hz])
  refine ⟨N.filter fun p => decide (p.1 ≠ d), ⟨?_, fun b y e => ?_, r.F.above⟩, fun p hp => ?_, ?_, r.ow, r.len, fun j a e => ?_, fun j y e => ?_, r.pend.mono g, fun p hp => ?_, r.g, r.cel.mono g⟩
  · obtain ⟨y, es, ep, g1, g2⟩ := r.F.ns
    exact ⟨y, es, ep, hs _ _ (Ne.symm hd.2.1) g1, g2⟩
  · have hb : b ≠ d := fun e' => by subst e'; rw [hd.2.2] at e; cases e
    exact hs b y hb (r.F.keep b y e)
  · obtain ⟨h1, h2⟩ := (hm p).mp hp
    have q := r.nw p h1
    exact ⟨hs _ _ h2 q.1, q.2⟩
  · exact r.nd.sublist ((List.filter_sublist (l := N)).map _)
  · obtain ⟨x, v, h1, h2, h3⟩ := r.env j a e
    exact ⟨x, v, h1, h2, h3.mono g⟩
  · obtain ⟨bs, e1, e2⟩ := r.heap j y e
    exact ⟨bs, e1, e2.mono g fun a ha z hz => (hm _).mpr ⟨hz, fun q => x2 ((show a = d from q) ▸ own_mem e1 ha)⟩⟩
  · have q := r.xs p (.tail _ hp)
    exact ⟨(hm p).mpr ⟨q.1, hx p hp⟩, q.2⟩
theorem RelD.pushX {o : Obj} {as : List AV} {vs : List Value} {xs : Led} {ρ : List (List Addr)} {N : Led} {m : Str → Option Value} (r : RelD c st ⟨as, vs, xs⟩ s ρ N m) (hf : o.isFreed = false) (h1 : o.cls ≠ .type "list" ∧ o.cls ≠ .type "tuple") :
    RelD c st ⟨as, vs, (s.heap.objs.size, o) :: xs⟩ { s with heap := s.heap.push o } ρ ((s.heap.objs.size, o) :: N) m ∧ ∀ p ∈ xs, p.1 ≠ s.heap.objs.size := by
  have fresh : ∀ p ∈ N, p.1 ≠ s.heap.objs.size := fun p hp => Nat.ne_of_lt (Heap.lt_size (r.nw p hp).1)
  have d := r.frozen (k := s.toks) (r.F.push o) (News.push r.F r.nw o hf) fresh
  refine ⟨⟨d.F, d.nw, d.nd, d.ow, d.len, d.env, d.heap, d.pend, fun p hp => ?_, d.g, d.cel⟩, fun p hp => fresh p (r.xs p hp).1⟩
  rcases List.mem_cons.mp hp with rfl | hp
  · exact ⟨.head _, r.off fresh, h1⟩
  · exact d.xs p hp

theorem for_core {it : Addr} {items : List AV} {src : AV} {sv : Value} {i : Nat} {x : Str} {xp : Pos} {b : List Stmt} {P : AFl → ASt → Prop} {R : Result → Shared → Prop} (Jt : Nat → Obj → Prop) (hx : c.sc.names[i]? = some (x, .local)) (hxs : ∀ p ∈ fm.xs, p.1 ≠ it)
    (hitem : ∀ (k : Nat) (a : AV), items[k]? = some a → ∀ st s o (Q : Option Value → Shared → Prop), Jt k o → Rel c st ⟨src :: fm.as, sv :: fm.vs, (it, o) :: fm.xs⟩ s →
      (∀ v s' o', Jt (k + 1) o' → Rel c st ⟨a :: src :: fm.as, v :: sv :: fm.vs, (it, o') :: fm.xs⟩ s' → Q (some v) s') → wpAny c.M c.A (pyNext (.ref it)) Q noE s)
    (hend : ∀ st s o (Q : Option Value → Shared → Prop), Jt items.length o → Rel c st ⟨src :: fm.as, sv :: fm.vs, (it, o) :: fm.xs⟩ s → (∀ s', Rel c st fm s' → Q none s') → wpAny c.M c.A (pyNext (.ref it)) Q noE s)
    (inv : Nat → ASt → Prop) (turn : ∀ (k : Nat) (a : AV), items[k]? = some a → ∀ st1, inv k st1 → TSs c b { st1 with env := st1.env.set i (some a) } fun fl st2 => match fl with | .brk => P .next st2 | .ret r => P (.ret r) st2 | _ => inv (k + 1) st2)
    (done : ∀ st1, inv items.length st1 → P .next st1) {o₀ : Obj} (h0 : inv 0 st) (hj : Jt 0 o₀) (hr : Rel c st ⟨src :: fm.as, sv :: fm.vs, (it, o₀) :: fm.xs⟩ s)
    (q : ∀ fl f st' s', P fl st' → (match fl with | .next => f = .next ∧ Rel c st' fm s' | .ret a => ∃ v, f = .ret v ∧ Rel c st' (fm.push a v) s' | _ => False) → R (.ok f) s') :
    codeAny c.M c.A (.forLoop (.Name x xp) (.ref it) b [] c.env) R s := by
  refine codeAny_forLoop_any (fun n s => ∃ k st1 o, k ≤ items.length ∧ n = items.length - k ∧ inv k st1 ∧ Jt k o ∧ Rel c st1 ⟨src :: fm.as, sv :: fm.vs, (it, o) :: fm.xs⟩ s) ?_ items.length ⟨0, st, o₀, Nat.zero_le _, rfl, h0, hj, hr⟩
  rintro n s1 ⟨k, st1, o, hk, rfl, hi, hjo, r1⟩
  have mono : ∀ {Q : Option Value → Shared → Prop} {E : Value → Shared → Prop} {s : Shared}, wpAny c.M c.A (pyNext (.ref it)) Q noE s → wpAny c.M c.A (pyNext (.ref it)) Q E s := fun h => wpAny_mono h (fun _ _ x => x) fun _ _ x => x.elim
  cases he : items[k]? with
  | none =>
    have hk' : k = items.length := by
      have := List.getElem?_eq_none_iff.mp he
      omega
    subst hk'
    refine mono (hend st1 s1 o _ hjo r1 fun s' r' => ?_)
    exact wpAny_execs_nil (q .next .next _ _ (done st1 hi) ⟨rfl, r'⟩)
  | some a =>
    have hlt := (List.getElem?_eq_some_iff.mp he).1
    refine mono (hitem k a he st1 s1 o _ hjo r1 fun v s' o' hj' r' => ?_)
    refine wpAny_pure (wpAny_assign_Name (wpAny_mono (store_sound (fm := ⟨src :: fm.as, sv :: fm.vs, (it, o') :: fm.xs⟩) (Q := fun _ s2 => Rel c { st1 with env := st1.env.set i (some a) } ⟨src :: fm.as, sv :: fm.vs, (it, o') :: fm.xs⟩ s2) hx r' fun s2 r2 => r2) (fun _ s2 r2 => ?_) fun _ _ x => x.elim))
    refine wpAny_mono (turn k a he st1 hi ⟨src :: fm.as, sv :: fm.vs, (it, o') :: fm.xs⟩ s2 r2 (fun f s3 => match f with | .next => ∃ m, m < items.length - k ∧ _ | .cont => ∃ m, m < items.length - k ∧ _ | .brk => R (.ok .next) s3 | .ret v => R (.ok (.ret v)) s3) fun fl f st3 s3 h3 r3 => ?_) (fun _ _ x => by first | exact x | (rename_i f _; cases f <;> exact x)) fun _ _ x => x.elim
    have dropx : ∀ {as : List AV} {vs : List Value}, Rel c st3 ⟨as, vs, (it, o') :: fm.xs⟩ s3 → Rel c st3 ⟨as, vs, fm.xs⟩ s3 := by
      rintro as vs ⟨ρ, N, m, d⟩
      obtain ⟨N', d'⟩ := d.dropX (h' := s3.heap) (k := s3.toks) hxs fun _ _ _ h => h
      exact ⟨ρ, N', m, d'⟩
    cases fl <;> cases f <;> first | exact r3.elim | skip
    · exact ⟨items.length - (k + 1), by omega, k + 1, st3, o', by omega, rfl, h3, hj', r3⟩
    · refine q .next .next _ _ h3 ⟨rfl, ?_⟩
      exact (dropx r3).pop (fm := fm)
    · exact ⟨items.length - (k + 1), by omega, k + 1, st3, o', by omega, rfl, h3, hj', r3⟩
    · refine q (.ret _) (.ret _) _ _ h3 ⟨_, rfl, ?_⟩
      obtain ⟨ρ, N, m, d⟩ := dropx r3
      refine ⟨ρ, N, m, d.fmTo ?_ rfl⟩
      cases d.pend with
      | cons p1 p2 => cases p2 with | cons p3 p4 => exact .cons p1 p4
end
end Mine
end
section
namespace Mine
theorem one_of {α β : Type} {l : List α} {b : β} (h : l.length = [b].length) : ∃ a, l = [a] := List.length_eq_one_iff.mp h
theorem nil_of {α β : Type} {l : List α} (h : l.length = ([] : List β).length) : l = [] := List.length_eq_zero_iff.mp h
theorem it_ok {o : Obj} {T : String} (h : o.cls = .type T) (h1 : T ≠ "list") (h2 : T ≠ "tuple") : o.cls ≠ .type "list" ∧ o.cls ≠ .type "tuple" := by
  rw [h]
  exact ⟨fun z => h1 (by injection z), fun z => h2 (by injection z)⟩
noncomputable def notSet : PySem.Expr → Bool
  | .Set .. => false
  | _ => true
theorem folded_plain {e : PySem.Expr} {env : Env} (h : notSet e = true) (v : Value) : foldedSetIterable e env v = pure v := by
  cases e <;> first | rfl | simp [notSet] at h
noncomputable def Loop {G : Gl} (c : Cx G) (items : List AV) (i : Nat) (b : List Stmt) (st : ASt) (P : AFl → ASt → Prop) : Prop :=
  ∃ inv : Nat → ASt → Prop, inv 0 st ∧ (∀ (k : Nat) (a : AV), items[k]? = some a → ∀ st1, inv k st1 → TSs c b { st1 with env := st1.env.set i (some a) } fun fl st2 => match fl with | .brk => P .next st2 | .ret r => P (.ret r) st2 | _ => inv (k + 1) st2) ∧
    ∀ st1, inv items.length st1 → P .next st1
section
variable {G : Gl} {c : Cx G} {st : ASt} {fm : Fm} {s : Shared}
theorem loop_end {Q : Flow → Shared → Prop} {P : AFl → ASt → Prop} (q : ∀ fl f st' s', P fl st' → FlowOk c st' fm s' fl f → Q f s') :
    ∀ fl f st' s', P fl st' → (match fl with | .next => f = .next ∧ Rel c st' fm s' | .ret a => ∃ v, f = .ret v ∧ Rel c st' (fm.push a v) s' | _ => False) → Q f s' := by
  intro fl f st' s' p h
  cases fl with
  | next => obtain ⟨rfl, r⟩ := h; exact q .next .next _ _ p r
  | ret a => obtain ⟨v, rfl, r⟩ := h; exact q (.ret a) (.ret v) _ _ p r
  | brk => exact h.elim
  | cont => exact h.elim
theorem TS.forL {i : Nat} {x : Str} {xp pos : Pos} {iter : PySem.Expr} {b : List Stmt} {P : AFl → ASt → Prop} (hx : c.sc.names[i]? = some (x, .local)) (hs : notSet iter = true)
    (h : TE c iter st fun a st1 => ∃ l, a = .lst l ∧ Loop c l i b st1 P) : TS c (.For (.Name x xp) iter b [] pos) st P := by
  intro fm s hr Q q
  refine wpAny_For (h fm s hr _ fun a v st1 s1 h1 r1 => ?_) (folded_plain hs)
  obtain ⟨l, rfl, inv, i0, turn, done⟩ := h1
  obtain ⟨ρ, N, m, d⟩ := r1
  obtain ⟨y, vs, rfl, g1, g2⟩ := d.listAt d.top rfl
  refine wpAny_pyIter_list g1 ?_
  obtain ⟨d', hx'⟩ := d.pushX (o := { cls := .type "list_iterator", data := .fields #[.ref y, .int 0 0] }) rfl (it_ok rfl (by decide) (by decide))
  refine for_core (fm := fm) (src := .lst l) (sv := .ref y) (items := l) (fun k o => o.cls = .type "list_iterator" ∧ o.data = .fields #[.ref y, .int k 0]) hx hx' ?_ ?_ inv turn done i0 ⟨rfl, rfl⟩ ⟨ρ, _, m, d'⟩
    (loop_end q)
  · rintro k a hk st s o Q ⟨j1, j2⟩ ⟨ρ, N, m, d⟩ q
    obtain ⟨y', vs, e, g1, g2⟩ := d.listAt (by cases d.pend with | cons h _ => exact h) rfl
    cases e
    obtain ⟨u, u1, u2⟩ := g2.get hk
    refine wpAny_pyNext_list_item ⟨o, (d.nw _ (d.xs _ (.head _)).1).1, j1, j2⟩ g1 (by simpa using u1) fun h' hit hs => ?_
    obtain ⟨o', ho', c', e'⟩ := hit
    obtain ⟨N', d'⟩ := (d.push u2).touchX (k := s.toks) hx' hs ho' (it_ok c' (by decide) (by decide))
    exact q u _ o' ⟨c', e'⟩ ⟨ρ, N', m, d'⟩
  · rintro st s o Q ⟨j1, j2⟩ ⟨ρ, N, m, d⟩ q
    obtain ⟨y', vs, e, g1, g2⟩ := d.listAt (by cases d.pend with | cons h _ => exact h) rfl
    cases e
    refine wpAny_pyNext_list_end c.hh ⟨o, (d.nw _ (d.xs _ (.head _)).1).1, j1, j2⟩ g1 (by simp [g2.length]) fun h' hs => ?_
    obtain ⟨N', d'⟩ := d.dropX (k := s.toks) hx' hs
    exact q _ ⟨ρ, N', m, d'.pop (fm := fm)⟩
theorem strItems {x : Str} {k : Nat} {a : AV} (h : (x.cps.toList.map fun n => AV.str ⟨#[n]⟩)[k]? = some a) : ∃ n, x.cps[k]? = some n ∧ a = .str ⟨#[n]⟩ := by
  rw [List.getElem?_map] at h
  obtain ⟨n, h1, h2⟩ := Option.map_eq_some_iff.mp h
  exact ⟨n, by simpa using h1, h2.symm⟩
theorem TS.forS {i : Nat} {x : Str} {xp pos : Pos} {iter : PySem.Expr} {b : List Stmt} {P : AFl → ASt → Prop} (hx : c.sc.names[i]? = some (x, .local)) (hs : notSet iter = true)
    (h : TE c iter st fun a st1 => ∃ y : Str, a = .str y ∧ Loop c (y.cps.toList.map fun n => AV.str ⟨#[n]⟩) i b st1 P) : TS c (.For (.Name x xp) iter b [] pos) st P := by
  intro fm s hr Q q
  refine wpAny_For (h fm s hr _ fun a v st1 s1 h1 r1 => ?_) (folded_plain hs)
  obtain ⟨y, rfl, inv, i0, turn, done⟩ := h1
  obtain ⟨t, rfl⟩ := r1.popStr
  obtain ⟨ρ, N, m, d⟩ := r1
  have run : ∀ T : String, T ≠ "list" → T ≠ "tuple" →
      (∀ (it : Addr) (k n : Nat) (s : Shared) (Q : Option Value → Shared → Prop), s.heap.IsStrIter it T y t k → y.cps[k]? = some n → (∀ h', h'.IsStrIter it T y t (k + 1) → Heap.SameBut it s.heap h' → Q (some (.str ⟨#[n]⟩ s.toks)) { s with heap := h', toks := s.toks + 1 }) → wpAny c.M c.A (pyNext (.ref it)) Q noE s) →
      (∀ (it : Addr) (k : Nat) (s : Shared) (Q : Option Value → Shared → Prop), s.heap.IsStrIter it T y t k → y.cps[k]? = none → (∀ h', Heap.ExtBut it s.heap h' → Q none { s with heap := h' }) → wpAny c.M c.A (pyNext (.ref it)) Q noE s) →
      codeAny c.M c.A (.forLoop (.Name x xp) (.ref s1.heap.objs.size) b [] c.env) (fun r s' => match r with | .ok f => Q f s' | .error e => cameBackBy c.M c.A c.env noE e s')
        { s1 with heap := s1.heap.push { cls := .type T, data := .fields #[.str y t, .int 0 0] } } := by
    intro T h1 h2 item fin
    obtain ⟨d', hx'⟩ := d.pushX (o := { cls := .type T, data := .fields #[.str y t, .int 0 0] }) rfl (it_ok rfl h1 h2)
    refine for_core (fm := fm) (src := .str y) (sv := .str y t) (items := y.cps.toList.map fun n => AV.str ⟨#[n]⟩) (fun k o => o.cls = .type T ∧ o.data = .fields #[.str y t, .int k 0]) hx hx' ?_ ?_ inv turn done i0 ⟨rfl, rfl⟩ ⟨ρ, _, m, d'⟩
      (loop_end q)
    · rintro k a hk st s o Q ⟨j1, j2⟩ ⟨ρ, N, m, d⟩ q
      obtain ⟨n, hn, rfl⟩ := strItems hk
      refine item _ k n s Q ⟨o, (d.nw _ (d.xs _ (.head _)).1).1, j1, j2⟩ hn fun h' hit hs => ?_
      obtain ⟨o', ho', c', e'⟩ := hit
      obtain ⟨N', d'⟩ := (d.push (a := .str ⟨#[n]⟩) (v := .str ⟨#[n]⟩ s.toks) (.str _ _)).touchX (k := s.toks + 1) hx' hs ho' (it_ok c' h1 h2)
      exact q _ _ o' ⟨c', e'⟩ ⟨ρ, N', m, d'⟩
    · rintro st s o Q ⟨j1, j2⟩ ⟨ρ, N, m, d⟩ q
      refine fin _ _ s Q ⟨o, (d.nw _ (d.xs _ (.head _)).1).1, j1, j2⟩ (by simp) fun h' hs => ?_
      obtain ⟨N', d'⟩ := d.dropX (k := s.toks) hx' hs
      exact q _ ⟨ρ, N', m, d'.pop (fm := fm)⟩
  cases ha : y.cps.all (· < 128) with
  | true => exact wpAny_pyIter_ascii ha (run "str_ascii_iterator" (by decide) (by decide) (fun it k n s Q h1 h2 h3 => wpAny_pyNext_ascii_item h1 h2 h3) fun it k s Q h1 h2 h3 => wpAny_pyNext_ascii_end c.hh h1 h2 h3)
  | false => exact wpAny_pyIter_wide ha (run "str_iterator" (by decide) (by decide) (fun it k n s Q h1 h2 h3 => wpAny_pyNext_wide_item h1 h2 h3) fun it k s Q h1 h2 h3 => wpAny_pyNext_wide_end c.hh h1 h2 h3)

noncomputable def upItems (n : Int) : List AV := (List.range n.toNat).map fun (k : Nat) => AV.int (k : Int)
theorem TS.forR {i : Nat} {x : Str} {xp np rp pos : Pos} {e : PySem.Expr} {b : List Stmt} {P : AFl → ASt → Prop} (hx : c.sc.names[i]? = some (x, .local)) (hg : c.sc.names.lookup (PySem.Str.ofString "range") = some .globalImplicit) (hk : nsIn G.K mainGlobals "range" = some none) (hp : plainE e = true)
    (h : TE c e st fun a st1 => ∃ n : Int, a = .int n ∧ (-(2 ^ 40) ≤ n ∧ n ≤ 2 ^ 40) ∧ Loop c (upItems n) i b st1 P) : TS c (.For (.Name x xp) (.Call (.Name "range" np) [e] [] rp) b [] pos) st P := by
  intro fm s hr Q q
  refine wpAny_For (Call_Name rfl (name_blt hr hg (by decide) hk (by rfl) (by decide) (callWith_typ (P := fun as st1 => ∃ a, as = [a] ∧ ∃ n : Int, a = .int n ∧ (-(2 ^ 40) ≤ n ∧ n ≤ 2 ^ 40) ∧ Loop c (upItems n) i b st1 P) (by simp [hp]) hr ?_ fun as vs st1 s1 hl h1 r1 => ?_))) (folded_plain rfl)
  · refine TEs.star hp fun fm s hr Q q => h fm s hr Q fun a v st1 s1 h1 r1 => q a v st1 s1 (TEs.nil ⟨a, rfl, h1⟩) r1
  · obtain ⟨a, rfl, n, rfl, ⟨n1, n2⟩, inv, i0, turn, done⟩ := h1
    obtain ⟨v, rfl⟩ := one_of hl.symm
    ·
      have r1 : Rel c st1 (fm.push (.int n) v) s1 := r1
      obtain ⟨t, rfl⟩ := r1.popInt
      obtain ⟨ρ, N, m, d⟩ := r1
      refine PySem.call_range_1 ?_
      refine wpAny_pyIter_range (IsRange.new ..) (small_one (by omega) (by omega) (by omega) (by omega)) ?_
      have fresh : ∀ p ∈ N, p.1 ≠ s1.heap.objs.size := fun p hp => Nat.ne_of_lt (Heap.lt_size (d.nw p hp).1)
      have d1 := d.frozen (k := s1.toks + 1 + 1) (d.F.push { cls := .type "range", data := .fields #[.int 0 s1.toks, .int n t, .int 1 (s1.toks + 1)] }) (News.push d.F d.nw _ rfl) fresh
      obtain ⟨d', hx'⟩ := d1.pushX (o := { cls := .type "range_iterator", data := .fields #[rawInt 0, rawInt (Builtin.Range.rangeSize 0 n 1), rawInt 1] }) rfl (it_ok rfl (by decide) (by decide))
      have hsz : Builtin.Range.rangeSize 0 n 1 = (n.toNat : Int) := by rw [rangeSize_one]; split <;> omega
      refine for_core (fm := fm) (src := .int n) (sv := .int n t) (items := upItems n) (fun k o => o = { cls := .type "range_iterator", data := .fields #[rawInt (k : Int), rawInt ((n.toNat : Int) - k), rawInt 1] }) hx hx' ?_ ?_ inv turn done i0 (by rw [hsz]; simp) ⟨ρ, _, m, d'⟩
        (loop_end q)
      · rintro k a hk st s o Q rfl ⟨ρ, N, m, d⟩ q
        have hk' : k < n.toNat ∧ a = .int (k : Int) := by
          unfold upItems at hk
          rw [List.getElem?_map] at hk
          obtain ⟨j, h1, h2⟩ := Option.map_eq_some_iff.mp hk
          have := List.getElem?_eq_some_iff.mp h1
          obtain ⟨h3, h4⟩ := this
          simp at h3 h4
          subst h4
          exact ⟨by omega, h2.symm⟩
        obtain ⟨hk1, rfl⟩ := hk'
        have hit : IsRangeIter s.heap _ (k : Int) ((n.toNat : Int) - k) 1 := (d.nw _ (d.xs _ (.head _)).1).1
        refine wpAny_pyNext_range_item hit (by omega) fun h' hit' hs => ?_
        obtain ⟨N', d'⟩ := (d.push (a := .int (k : Int)) (v := .int (k : Int) s.toks) (.int _ _)).touchX (k := s.toks + 1) hx' hs hit' (it_ok rfl (by decide) (by decide))
        refine q _ _ _ ?_ ⟨ρ, N', m, d'⟩
        have e1 : ((n.toNat : Int) - k - 1) = (n.toNat : Int) - ((k + 1 : Nat) : Int) := by omega
        rw [e1]
        rfl
      · rintro st s o Q rfl ⟨ρ, N, m, d⟩ q
        have hl : (upItems n).length = n.toNat := by simp [upItems]
        have hit : IsRangeIter s.heap _ ((upItems n).length : Int) ((n.toNat : Int) - (upItems n).length) 1 := (d.nw _ (d.xs _ (.head _)).1).1
        refine wpAny_pyNext_range_end c.hh hit (by omega) fun h' hs => ?_
        obtain ⟨N', d'⟩ := d.dropX (k := s.toks) hx' hs
        exact q _ ⟨ρ, N', m, d'.pop (fm := fm)⟩
end
end Mine
end
section
namespace Mine
section
variable {G : Gl} {c : Cx G} {st : ASt} {fm : Fm} {s : Shared}
noncomputable def Aug (op : Operator) (a b : AV) (k : AV → Prop) : Prop := match a, b with
  | .int x, .int y => (match op with
    | .Add => k (.int (x + y))
    | .Sub => k (.int (x - y))
    | .FloorDiv => (y ≠ 0 ∧ Builtin.divisionGoesByPylong x y = false) ∧ k (.int (x.fdiv y))
    | _ => False)
  | .str x, .str y => (match op with
    | .Add => x.length + y.length ≤ sizeLine ∧ k (.str (x ++ y))
    | _ => False)
  | _, _ => False
theorem aug_sound {op : Operator} {a b : AV} {v u : Value} {P : AV → ASt → Prop} (r : Rel c st ((fm.push a v).push b u) s) (h : Aug op a b fun x => P x st) : Gives c (inplaceOp op v u) fm s P := by
  intro Q q
  unfold Aug at h
  split at h
  · obtain ⟨t, rfl⟩ := r.popInt
    have r := r.pop
    obtain ⟨t', rfl⟩ := r.popInt
    have r := r.pop
    cases op <;> first | exact h.elim | skip
    · exact iadd_int (q _ _ _ _ h r.int)
    · exact isub_int (q _ _ _ _ h r.int)
    · exact ifloordiv_int h.1.1 (q _ _ _ _ h.2 r.int) (.inl h.1.2)
  · obtain ⟨t, rfl⟩ := r.popStr
    have r := r.pop
    obtain ⟨t', rfl⟩ := r.popStr
    have r := r.pop
    cases op <;> first | exact h.elim | skip
    exact SBL.iadd (fun t' k _ => q _ _ _ _ h.2 r.str) h.1
  · exact h.elim
theorem TS.aug {i : Nat} {x : Str} {e : PySem.Expr} {op : Operator} {p pos : Pos} {a : AV} {P : AFl → ASt → Prop} (hx : c.sc.names[i]? = some (x, .local)) (ha : st.env[i]? = some (some a))
    (h : TE c e st fun b st1 => Aug op a b fun v => P .next { st1 with env := st1.env.set i (some v) }) : TS c (.AugAssign (.Name x p) op e pos) st P := by
  intro fm s hr Q q
  obtain ⟨ρ, N, m, d⟩ := hr
  obtain ⟨y, v, h1, h2, h3⟩ := d.env i a ha
  rw [hx] at h1
  cases h1
  refine wpAny_AugAssign_Name (wpAny_loadName_local c.hk (lookup_of_get c.nd hx) d.F.ns h2 ?_)
  refine h _ _ (show Rel c st (fm.push a v) s from ⟨ρ, N, m, d.push h3⟩) _ fun b u st1 s1 h1 r1 => ?_
  exact aug_sound (P := fun v st1 => P .next { st1 with env := st1.env.set i (some v) }) r1 h1 _ fun w z st2 s2 h2 r2 => store_sound hx r2 fun s' r' => q .next .next _ _ h2 r'

noncomputable def SetIdx (hp : List AO) (a i v : AV) (P : List AO → Prop) : Prop := match a, i with
  | .obj j, .int x => (match hp[j]? with
    | some (.list l) => (0 ≤ x ∧ x < (l.length : Int) ∧ l.length ≤ sizeLine) ∧ P (hp.set j (.list (l.set x.toNat v)))
    | _ => False)
  | _, _ => False

theorem ki_setL_of : ∀ {l : List Value} {k : Nat} {v : Value}, k < l.length → ki_setL l k v = some (l.set k v)
  | [], k, v, h => by simp at h
  | x :: r, 0, v, _ => rfl
  | x :: r, k + 1, v, h => by
    unfold ki_setL
    rw [ki_setL_of (by simpa using h)]
    rfl
theorem setIdx_sound {a i v : AV} {av iv vv : Value} {P : ASt → Prop} {Q : Unit → Shared → Prop} (r : Rel c st (((fm.push v vv).push a av).push i iv) s) (h : SetIdx st.heap a i v fun hp => P { st with heap := hp }) (q : ∀ st' s', P st' → Rel c st' fm s' → Q () s') :
    wpAny c.M c.A (setItem av iv vv) Q noE s := by
  unfold SetIdx at h
  split at h
  · rename_i _ _ j x
    split at h
    · rename_i l hj
      obtain ⟨⟨h0, h1, h2⟩, h3⟩ := h
      obtain ⟨t, rfl⟩ := r.popInt
      obtain ⟨ρ, N, m, d⟩ := r
      have d1 := d.pop
      cases d1.top with
      | obj hρ =>
        obtain ⟨as, e1, b, vs, n, rfl, g1, g2⟩ := d1.heap _ _ hj
        rw [hρ] at e1
        cases e1
        have hl := g2.length
        rw [sizeLine_eq] at h2
        obtain ⟨N', u⟩ := upd_of (o' := lstO (vs.set x.toNat vv) n) d1.nd g1
        refine ki_set d1.F d1.nw h0 (by omega) (ki_setL_of (by simp only []; omega)) u fun h' F' N2 => ?_
        have g : Grow ρ ρ N N' := grow_upd d1.nd u lst_tup fun _ => own_mem hρ (.head _)
        have d2 := d1.upd (k := s.toks) (i := j) (x' := .list (l.set x.toNat v)) F' N2 u hρ (.head _) lst_tup ⟨_, _, n, rfl, upd_new u, (g2.mono g).set (d1.pop.top.mono g)⟩
        exact q _ _ h3 ⟨ρ, N', m, d2.pop.pop⟩
    · exact h.elim
  · exact h.elim
theorem getIdx_sound {a i : AV} {v u : Value} {P : AV → ASt → Prop} (r : Rel c st ((fm.push a v).push i u) s) (h : ∃ l x w, seqOf st.heap a = some l ∧ i = .int x ∧ (0 ≤ x ∧ l.length ≤ sizeLine) ∧ l[x.toNat]? = some w ∧ P w st)
    {Q : Value → Shared → Prop} (q : ∀ w z st' s', P w st' → Rel c st' (((fm.push a v).push i u).push w z) s' → Q z s') : wpAny c.M c.A (getItem v u) Q noE s := by
  obtain ⟨l, x, w, hl, rfl, ⟨h1, h2⟩, h3, h4⟩ := h
  obtain ⟨t, rfl⟩ := r.popInt
  obtain ⟨ρ, N, m, d⟩ := r
  obtain ⟨y, vs, rfl, g0, g3⟩ := d.pop.listAt d.pop.top hl
  obtain ⟨w', g1, g2⟩ := g3.get h3
  have hlt := (List.getElem?_eq_some_iff.mp g1).1
  have hlen := g3.length
  rw [sizeLine_eq] at h2
  exact wpAny_getItem_list g0 h1 (by omega) (by simpa using g1) (q _ _ _ _ h4 ⟨ρ, N, m, d.push g2⟩)
theorem TS.augIdx {o i e : PySem.Expr} {op : Operator} {p pos : Pos} {P : AFl → ASt → Prop} (hi : plainE i = true)
    (h : TE c o st fun a st1 => TE c i st1 fun b st2 => ∃ l x w, seqOf st2.heap a = some l ∧ b = .int x ∧ (0 ≤ x ∧ l.length ≤ sizeLine) ∧ l[x.toNat]? = some w ∧
      TE c e st2 fun d st3 => Aug op w d fun v => SetIdx st3.heap a b v fun hp => P .next { st3 with heap := hp }) : TS c (.AugAssign (.Subscript o i p) op e pos) st P := by
  intro fm s hr Q q
  refine wpAny_AugAssign_SubscriptAny (h fm s hr _ fun a av st1 s1 h1 r1 => h1 _ _ r1 _ fun b bv st2 s2 h2 r2 => ?_) ?_
  · obtain ⟨l, x, w, e1, e2, e3, e4, e5⟩ := h2
    refine getIdx_sound (P := fun w' st' => TE c e st' fun d st3 => Aug op w' d fun v => SetIdx st3.heap a b v fun hp => P .next { st3 with heap := hp }) r2 ⟨l, x, w, e1, e2, e3, e4, e5⟩ fun w z st3 s3 h3 r3 => ?_
    refine h3 _ _ r3 _ fun d dv st4 s4 h4 r4 => ?_
    refine aug_sound (fm := (fm.push a av).push b bv) (P := fun v st3 => SetIdx st3.heap a b v fun hp => P .next { st3 with heap := hp }) r4 h4 _ fun y yv st5 s5 h5 r5 => ?_
    refine setIdx_sound (fm := fm) (P := fun st' => P .next st') (v := y) (vv := yv) (a := a) (av := av) (i := b) (iv := bv) ?_ h5 fun st' s' p r => q .next .next _ _ p r
    obtain ⟨ρ, N, m, d⟩ := r5
    refine ⟨ρ, N, m, d.fmTo ?_ rfl⟩
    cases d.pend with
    | cons p1 p2 => cases p2 with | cons p3 p4 => cases p4 with | cons p5 p6 => exact .cons p3 (.cons p5 (.cons p1 p6))
  · intro ov iv new
    cases i <;> first | rfl | simp [plainE] at hi
end
end Mine
end
section
set_option maxRecDepth 20000
namespace Mine
section
variable {G : Gl} {c : Cx G} {st : ASt} {fm : Fm} {s : Shared}
noncomputable def App (hp : List AO) (a v : AV) (P : List AO → Prop) : Prop := match a with
  | .obj j => (match hp[j]? with
    | some (.list l) => l.length + 1 ≤ sizeLine ∧ P (hp.set j (.list (l ++ [v])))
    | _ => False)
  | _ => False
theorem TE.append {o e : PySem.Expr} {apos pos : Pos} {P : AV → ASt → Prop} (ho : notCall o = true) (he : plainE e = true) (hpos : (apos.endLine == pos.line) = true)
    (h : TE c o st fun a st1 => (∃ i l, a = .obj i ∧ st1.heap[i]? = some (.list l)) ∧ TE c e st1 fun b st2 => App st2.heap a b fun hp => P .none { st2 with heap := hp }) :
    TE c (.Call (.Attribute o (PySem.Str.ofString "append") apos) [e] [] pos) st P := by
  intro fm s hr Q q
  refine meth_rule ho (by simp [he]) (by simp) hpos (h fm s hr _ fun a v st1 s1 h1 r1 pl => ?_)
  obtain ⟨⟨i, l, rfl, hi⟩, h1⟩ := h1
  have r0 := r1
  obtain ⟨ρ, N, m, d⟩ := r1
  cases d.top with
  | obj hρ =>
    obtain ⟨as, e1, x, vs, n, rfl, g1, g2⟩ := d.heap _ _ hi
    rw [hρ] at e1
    cases e1
    refine Calls.getMethod_list_append (d.nw.get g1) rfl rfl ?_
    refine callWith_blt (P := fun as st2 => ∃ b, as = [b] ∧ App st2.heap (.obj i) b fun hp => P .none { st2 with heap := hp }) (by simp [he]) r0 (TEs.star he fun fm s hr Q q => h1 fm s hr Q fun b w st2 s2 h2 r2 => q b w st2 s2 (TEs.nil ⟨b, rfl, h2⟩) r2) fun as ws st2 s2 hl h2 r2 => ?_
    obtain ⟨b, rfl, h2⟩ := h2
    obtain ⟨w, rfl⟩ := one_of hl.symm
    ·
      have r2 : Rel c st2 ((fm.push (.obj i) (.ref _)).push b w) s2 := r2
      unfold App at h2
      dsimp only at h2
      split at h2
      · rename_i l2 hj
        obtain ⟨h2, h3⟩ := h2
        obtain ⟨ρ2, N2, m2, d2⟩ := r2
        cases d2.pop.top with
        | obj hρ2 =>
          obtain ⟨as, e1, y, vs2, n2, rfl, g3, g4⟩ := d2.heap _ _ hj
          rw [hρ2] at e1
          cases e1
          have hlen := g4.length
          obtain ⟨N', u⟩ := upd_of (o' := PySem.W.listOf (vs2.toArray.push w) (n2 + 1)) d2.nd g3
          refine append_K d2.F d2.nw u (fun h' F' N3 => ?_) (by simp only [List.size_toArray]; omega)
          have g : Grow ρ2 ρ2 N2 N' := grow_upd d2.nd u lst_tup fun _ => own_mem hρ2 (.head _)
          have ho : RO G c.base ρ2 N' [_] (.list (l2 ++ [b])) := ⟨_, vs2 ++ [w], n2 + 1, rfl, by simpa [lstO] using upd_new u, (g4.mono g).append (.cons (d2.top.mono g) .nil)⟩
          have d3 := d2.upd (k := s2.toks) (i := i) F' N3 u hρ2 (.head _) lst_tup ho
          exact q _ _ _ _ h3 (show Rel c _ fm _ from ⟨ρ2, N', m2, d3.pop.pop⟩).none
      · exact h2.elim
theorem TE.strM {o e : PySem.Expr} {name : Str} {id : String} {apos pos : Pos} {P : AV → ASt → Prop} {R : Str → AV → ASt → Prop} (ho : notCall o = true) (he : plainE e = true) (hpos : (apos.endLine == pos.line) = true)
    (hg : ∀ (x : Str) (t : Tok) (pl : Sem Bool) (Q : Value × List Value → Shared → Prop) (s : Shared), Q (.builtin id, [.str x t]) s → wpAny c.M c.A (getMethod (.str x t) name pl) Q noE s)
    (hc : ∀ (x : Str) (t : Tok) (b : AV) (w : Value) (st : ASt) (fm : Fm) (s : Shared), Rel c st (fm.push b w) s → R x b st → Gives c (PySem.call (.builtin id) [.str x t, w]) fm s P)
    (h : TE c o st fun a st1 => ∃ x, a = .str x ∧ TE c e st1 fun b st2 => R x b st2) : TE c (.Call (.Attribute o name apos) [e] [] pos) st P := by
  intro fm s hr Q q
  refine meth_rule ho (by simp [he]) (by simp) hpos (h fm s hr _ fun a v st1 s1 h1 r1 pl => ?_)
  obtain ⟨x, rfl, h1⟩ := h1
  obtain ⟨t, rfl⟩ := r1.popStr
  refine hg x t pl _ s1 ?_
  show wpAny c.M c.A (callWith pos (.builtin id) [.str x t] (backTo pos (starEach [e] c.env)) []) Q noE s1
  refine callWith_blt (P := fun as st2 => ∃ b, as = [b] ∧ R x b st2) (by simp [he]) r1.pop (TEs.star he fun fm s hr Q q => h1 fm s hr Q fun b w st2 s2 h2 r2 => q b w st2 s2 (TEs.nil ⟨b, rfl, h2⟩) r2) fun as ws st2 s2 hl h2 r2 => ?_
  obtain ⟨b, rfl, h2⟩ := h2
  obtain ⟨w, rfl⟩ := one_of hl.symm
  exact hc x t b w st2 fm s2 r2 h2 Q q
noncomputable def Find (x : Str) (b : AV) (k : AV → Prop) : Prop := match b with
  | .str y => k (.int (Txt.find x y))
  | _ => False
noncomputable def Join (x : Str) (hp : List AO) (b : AV) (k : AV → Prop) : Prop := match seqOf hp b with
  | some l => (match strsOf l with
    | some ys => (x.length ≤ 64 ∧ (ys.map (·.length)).sum + ys.length * 64 ≤ 16777216) ∧ k (.str (Txt.join x ys))
    | none => False)
  | none => False
theorem TE.find {o e : PySem.Expr} {apos pos : Pos} {P : AV → ASt → Prop} (ho : notCall o = true) (he : plainE e = true) (hpos : (apos.endLine == pos.line) = true)
    (h : TE c o st fun a st1 => ∃ x, a = .str x ∧ TE c e st1 fun b st2 => Find x b fun v => P v st2) : TE c (.Call (.Attribute o (PySem.Str.ofString "find") apos) [e] [] pos) st P := by
  refine TE.strM (id := "str.find") (R := fun x b st2 => Find x b fun v => P v st2) ho he hpos (fun x t pl Q s h => by with_reducible exact GM.find h) (fun x t b w st fm s r h Q q => ?_) h
  unfold Find at h
  split at h
  · obtain ⟨t, rfl⟩ := r.popStr
    exact SC.find (q _ _ _ _ h r.pop.int)
  · exact h.elim
theorem TE.join {o e : PySem.Expr} {apos pos : Pos} {P : AV → ASt → Prop} (ho : notCall o = true) (he : plainE e = true) (hpos : (apos.endLine == pos.line) = true)
    (h : TE c o st fun a st1 => ∃ x, a = .str x ∧ TE c e st1 fun b st2 => Join x st2.heap b fun v => P v st2) : TE c (.Call (.Attribute o (PySem.Str.ofString "join") apos) [e] [] pos) st P := by
  refine TE.strM (id := "str.join") (R := fun x b st2 => Join x st2.heap b fun v => P v st2) ho he hpos (fun x t pl Q s h => by with_reducible exact GM.join h) (fun x t b w st fm s r h Q q => ?_) h
  unfold Join at h
  split at h
  · split at h
    · rename_i l hl x2 ys hy
      obtain ⟨ρ, N, m, d⟩ := r
      obtain ⟨y, vs, rfl, g0, g3⟩ := d.listAt d.top hl
      exact join_listC g0 (by simpa using strs_of g3 hy) h.1.1 h.1.2 fun t' k => q _ _ _ _ h.2 ⟨ρ, N, m, d.pop.toks.push (.str _ _)⟩
    · exact h.elim
  · exact h.elim
end
end Mine
end
section
set_option maxRecDepth 20000
namespace Mine
section
variable {G : Gl} {c : Cx G} {st : ASt} {fm : Fm} {s : Shared}
theorem TE.blt1 {x : Str} {id : String} {e : PySem.Expr} {p pos : Pos} {P R : AV → ASt → Prop} (hx : c.sc.names.lookup x = some .globalImplicit) (hd : (x == ("__debug__" : Str)) = false) (hg : nsIn G.K mainGlobals x = some Option.none)
    (hb : bootBuiltins x = some (.builtin id)) (hn : x ≠ "__name__") (he : plainE e = true) (hc : ∀ (b : AV) (w : Value) (st : ASt) (fm : Fm) (s : Shared), Rel c st (fm.push b w) s → R b st → Gives c (PySem.call (.builtin id) [w]) fm s P)
    (h : TE c e st R) : TE c (.Call (.Name x p) [e] [] pos) st P := by
  intro fm s hr Q q
  refine Call_Name rfl (name_blt hr hx hd hg hb hn ?_)
  refine callWith_blt (P := fun as st2 => ∃ b, as = [b] ∧ R b st2) (by simp [he]) hr (TEs.star he fun fm s hr Q q => h fm s hr Q fun b w st2 s2 h2 r2 => q b w st2 s2 (TEs.nil ⟨b, rfl, h2⟩) r2) fun as ws st2 s2 hl h2 r2 => ?_
  obtain ⟨b, rfl, h2⟩ := h2
  obtain ⟨w, rfl⟩ := one_of hl.symm
  exact hc b w st2 fm s2 r2 h2 Q q
noncomputable def Len (hp : List AO) (b : AV) (k : AV → Prop) : Prop := match b with
  | .str x => x.length ≤ sizeLine ∧ k (.int x.length)
  | b => (match seqOf hp b with
    | some l => l.length ≤ sizeLine ∧ k (.int l.length)
    | none => False)
noncomputable def Ord (b : AV) (k : AV → Prop) : Prop := match b with
  | .str x => x.length = 1 ∧ k (.int (x.cps.getD 0 0))
  | _ => False
noncomputable def Chr (b : AV) (k : AV → Prop) : Prop := match b with
  | .int i => (0 ≤ i ∧ i ≤ 1114111) ∧ k (.str ⟨#[i.toNat]⟩)
  | _ => False
noncomputable def Abs (b : AV) (k : AV → Prop) : Prop := match b with
  | .int i => k (.int (if i < 0 then -i else i))
  | _ => False
noncomputable def ToInt (b : AV) (k : AV → Prop) : Prop := match b with
  | .int i => k (.int i)
  | _ => False
theorem TE.len {e : PySem.Expr} {p pos : Pos} {P : AV → ASt → Prop} (hx : c.sc.names.lookup (PySem.Str.ofString "len") = some .globalImplicit) (hg : nsIn G.K mainGlobals "len" = some Option.none) (he : plainE e = true)
    (h : TE c e st fun b st1 => Len st1.heap b fun v => P v st1) : TE c (.Call (.Name (PySem.Str.ofString "len") p) [e] [] pos) st P := by
  refine TE.blt1 (id := "len") hx (by decide) hg (by rfl) (by decide) he (fun b w st fm s r h Q q => ?_) h
  unfold Len at h
  split at h
  · obtain ⟨t, rfl⟩ := r.popStr
    have := h.1
    rw [sizeLine_eq] at this
    exact SBL.len (by omega) (q _ _ _ _ h.2 r.pop.int)
  · split at h
    · rename_i l hl
      obtain ⟨ρ, N, m, d⟩ := r
      obtain ⟨y, vs, rfl, g0, g3⟩ := d.listAt d.top hl
      have hlen := g3.length
      have := h.1
      rw [sizeLine_eq] at this
      refine len_list g0 (by simp only [List.size_toArray]; omega) (q _ _ _ _ h.2 ?_)
      rw [← hlen]
      exact ⟨ρ, N, m, d.pop.toks.push (.int _ _)⟩
    · exact h.elim
theorem TE.ord {e : PySem.Expr} {p pos : Pos} {P : AV → ASt → Prop} (hx : c.sc.names.lookup (PySem.Str.ofString "ord") = some .globalImplicit) (hg : nsIn G.K mainGlobals "ord" = some Option.none) (he : plainE e = true)
    (h : TE c e st fun b st1 => Ord b fun v => P v st1) : TE c (.Call (.Name (PySem.Str.ofString "ord") p) [e] [] pos) st P := by
  refine TE.blt1 (id := "ord") hx (by decide) hg (by rfl) (by decide) he (fun b w st fm s r h Q q => ?_) h
  unfold Ord at h
  split at h
  · obtain ⟨t, rfl⟩ := r.popStr
    exact ord_of_one h.1 (q _ _ _ _ h.2 r.pop.int)
  · exact h.elim
theorem TE.chr {e : PySem.Expr} {p pos : Pos} {P : AV → ASt → Prop} (hx : c.sc.names.lookup (PySem.Str.ofString "chr") = some .globalImplicit) (hg : nsIn G.K mainGlobals "chr" = some Option.none) (he : plainE e = true)
    (h : TE c e st fun b st1 => Chr b fun v => P v st1) : TE c (.Call (.Name (PySem.Str.ofString "chr") p) [e] [] pos) st P := by
  refine TE.blt1 (id := "chr") hx (by decide) hg (by rfl) (by decide) he (fun b w st fm s r h Q q => ?_) h
  unfold Chr at h
  split at h
  · obtain ⟨t, rfl⟩ := r.popInt
    exact chr_of_range h.1.1 h.1.2 (q _ _ _ _ h.2 r.pop.str)
  · exact h.elim
theorem TE.abs {e : PySem.Expr} {p pos : Pos} {P : AV → ASt → Prop} (hx : c.sc.names.lookup (PySem.Str.ofString "abs") = some .globalImplicit) (hg : nsIn G.K mainGlobals "abs" = some Option.none) (he : plainE e = true)
    (h : TE c e st fun b st1 => Abs b fun v => P v st1) : TE c (.Call (.Name (PySem.Str.ofString "abs") p) [e] [] pos) st P := by
  refine TE.blt1 (id := "abs") hx (by decide) hg (by rfl) (by decide) he (fun b w st fm s r h Q q => ?_) h
  unfold Abs at h
  split at h
  · obtain ⟨t, rfl⟩ := r.popInt
    exact call_abs_int fun u k => q _ _ _ _ h r.pop.int
  · exact h.elim
theorem TE.toInt {e : PySem.Expr} {p pos : Pos} {P : AV → ASt → Prop} (hx : c.sc.names.lookup (PySem.Str.ofString "int") = some .globalImplicit) (hg : nsIn G.K mainGlobals "int" = some Option.none) (he : plainE e = true)
    (h : TE c e st fun b st1 => ToInt b fun v => P v st1) : TE c (.Call (.Name (PySem.Str.ofString "int") p) [e] [] pos) st P := by
  intro fm s hr Q q
  refine Call_Name rfl (name_blt hr hx (by decide) hg (by rfl) (by decide) ?_)
  refine callWith_typ (T := "int") (P := fun as st2 => ∃ b, as = [b] ∧ ToInt b fun v => P v st2) (by simp [he]) hr (TEs.star he fun fm s hr Q q => h fm s hr Q fun b w st2 s2 h2 r2 => q b w st2 s2 (TEs.nil ⟨b, rfl, h2⟩) r2) fun as ws st2 s2 hl h2 r2 => ?_
  obtain ⟨b, rfl, h2⟩ := h2
  obtain ⟨w, rfl⟩ := one_of hl.symm
  ·
    have r2 : Rel c st2 (fm.push b w) s2 := r2
    unfold ToInt at h2
    split at h2
    · have r3 := r2
      obtain ⟨t, rfl⟩ := r2.popInt
      exact call_int_int (q _ _ _ _ h2 r3)
    · exact h2.elim
end
end Mine
end
section
set_option maxRecDepth 20000
namespace Mine
theorem updF_of {d : Addr} {o : Obj} : ∀ {N : Led}, (N.map (·.1)).Nodup → (d, o) ∈ N → ∃ g, UpdF d o N g ∧ ∀ o', Upd d o o' N (g o')
  | p :: N, nd, h => by
    rw [List.map_cons, List.nodup_cons] at nd
    rcases List.mem_cons.mp h with rfl | h
    · have k : ∀ q ∈ N, q.1 ≠ d := fun q hq e => nd.1 (e ▸ List.mem_map_of_mem (f := (·.1)) hq)
      exact ⟨_, .head k, fun o' => .head k⟩
    · obtain ⟨g, u, v⟩ := updF_of nd.2 h
      have k : p.1 ≠ d := fun e => nd.1 (e ▸ List.mem_map_of_mem (f := (·.1)) h)
      exact ⟨_, .tail k u, fun o' => .tail k (v o')⟩
section
variable {G : Gl} {c : Cx G} {st : ASt} {fm : Fm} {s : Shared}
theorem TE.newD {pos : Pos} {P : AV → ASt → Prop} (h : P (.obj st.heap.length) { st with heap := st.heap ++ [.dict []] }) : TE c (.Dict [] [] pos) st P := by
  intro fm s hr Q q
  obtain ⟨ρ, N, m, d⟩ := hr
  refine newDict_K d.F d.nw c.T.nolimit fun a h' o F' N' lt sm _ _ io fp => ?_
  have fr : ∀ p ∈ N, p.1 ≠ a := fun p hp => Nat.ne_of_lt (lt p hp)
  have d' := d.own (k := s.toks) (as := [a]) (o := .dict []) F' N' (nd_cons d.nd fr) (fun p hp => .tail _ hp) (fun p hp => by simpa using fr p hp) (by simp) ⟨a, o, [], [], rfl, .head _, sm, io, fp, fun i => rfl, Nat.le_refl _⟩
  exact q _ _ _ _ h ⟨_, _, m, d'.push (.obj (as := []) (by simp [d.len]))⟩
theorem dict_cls {prog : Program} {w : World} {o : Obj} {kvs : List (Int × Value)} (h : o.IsDictOf (PySem.intKind prog w) kvs) : o.cls = .type "dict" := by
  obtain ⟨_, _, h1, _⟩ := h
  exact h1.1
noncomputable def SetKey (hp : List AO) (a i v : AV) (P : List AO → Prop) : Prop := match a, i with
  | .obj j, .int x => (match hp[j]? with
    | some (.dict ks) => ((∃ y, v = .str y) ∧ ks.length ≤ sizeLine) ∧ P (hp.set j (.dict (x :: ks)))
    | _ => False)
  | _, _ => False
theorem setKey_sound {a i v : AV} {av iv vv : Value} {P : ASt → Prop} {Q : Unit → Shared → Prop} (r : Rel c st (((fm.push v vv).push a av).push i iv) s) (h : SetKey st.heap a i v fun hp => P { st with heap := hp }) (q : ∀ st' s', P st' → Rel c st' fm s' → Q () s') :
    wpAny c.M c.A (setItem av iv vv) Q noE s := by
  unfold SetKey at h
  split at h
  · rename_i _ _ j x
    split at h
    · rename_i ks hj
      obtain ⟨⟨⟨y, rfl⟩, hl⟩, h3⟩ := h
      obtain ⟨t, rfl⟩ := r.popInt
      obtain ⟨t', rfl⟩ := r.pop.pop.popStr
      obtain ⟨ρ, N, m, d⟩ := r
      have d1 := d.pop
      cases d1.top with
      | @obj _ ad _ hρ =>
        obtain ⟨as, e1, b, o, kvs, D, rfl, g1, g2, g3, g4, g5, g6⟩ := d1.heap _ _ hj
        rw [hρ] at e1
        cases e1
        obtain ⟨g, u, hu⟩ := updF_of d1.nd g1
        refine setItem_K (enc := PyData.int) (k := x) (dv := .str y) PyProof.V.same_int (by simp [PySem.intKind, Value.isInt]) (fun h => Reads.str y t') d1.F d1.nw u g3 g4 (fun h' o' F' N2 io fp => ?_) (by omega)
        have ho : RO G c.base ρ (g o') [ad] (AO.dict (x :: ks)) := by
          refine ⟨_, o', _, _, rfl, upd_new (hu o'), g2, io, fp, fun i => ?_, ?_⟩
          · rw [PyProof.Rows.lookup_putK PyProof.V.keyEnc_int]
            by_cases e : i = x
            · subst e; simp
            · rw [if_neg e, g5, List.contains_cons]
              simp [e]
          · rw [PyProof.Rows.length_putD]
            split <;> simp <;> omega
        have d2 := d1.upd (k := s.toks + 1) (i := j) F' N2 (hu o') hρ (.head _) (by rw [dict_cls g3]; exact dict_tup) ho
        exact q _ _ h3 ⟨ρ, _, m, d2.pop.pop⟩
    · exact h.elim
  · exact h.elim
end
end Mine
end
section
set_option maxRecDepth 20000
namespace Mine
section
variable {G : Gl} {c : Cx G} {st : ASt} {fm : Fm} {s : Shared}
end
end Mine
end
section
set_option maxRecDepth 20000
namespace Mine
section
variable {G : Gl} {c : Cx G} {st : ASt} {fm : Fm} {s : Shared}
theorem storeC_sound {i : Nat} {x : Str} {a : AV} {v : Value} {w : Option AV} {Q : Unit → Shared → Prop} (hx : c.sc.names.lookup x = some .cell) (hi : (x, i) ∈ c.ci) (he : st.heap[i]? = some (.cell w)) (r : Rel c st (fm.push a v) s)
    (q : ∀ s', Rel c { st with heap := st.heap.set i (.cell (some a)) } fm s' → Q () s') : wpAny c.M c.A (storeName c.env x v) Q noE s := by
  obtain ⟨ρ, N, m, d⟩ := r
  obtain ⟨b, h1, h2⟩ := d.cel x i hi
  cases h2 with
  | obj hρ =>
    obtain ⟨as', e1, b', o, w', rfl, hm, hdt, _⟩ := d.heap i _ he
    rw [hρ] at e1
    cases e1
    obtain ⟨g, U, V⟩ := updF_of d.nd hm
    refine storeX_C d.F d.nw h1 U hdt (fun h' o' F' N' hd' => ?_) c.hk hx
    have nt : ∀ vs, o ≠ tupO vs := fun vs e => by rw [e] at hdt; cases hdt
    have nl : ∀ vs n, o ≠ lstO vs n := fun vs n e => by rw [e] at hdt; cases hdt
    have g' : Grow ρ ρ N (g o') := grow_upd' d.nd (V o') nt fun vs n e => absurd e (nl vs n)
    exact q _ ⟨ρ, _, m, d.pop.upd' (k := s.toks) F' N' (V o') hρ (.head _) nt ⟨b, o', some v, rfl, upd_new (V o'), hd', v, rfl, d.top.mono g'⟩⟩
theorem TS.setC {i : Nat} {x : Str} {e : PySem.Expr} {p pos : Pos} {P : AFl → ASt → Prop} (hx : c.sc.names.lookup x = some .cell) (hi : (x, i) ∈ c.ci) (hw : swapsWith e (some (.Name x p)) pos.line c.env = pure false)
    (h : TE c e st fun a st1 => (∃ w, st1.heap[i]? = some (.cell w)) ∧ P .next { st1 with heap := st1.heap.set i (.cell (some a)) }) : TS c (.Assign [.Name x p] e pos) st P := by
  intro fm s hr Q q
  refine wpAny_Assign_Name (h fm s hr _ fun a v st1 s1 h1 r1 => ?_) hw
  obtain ⟨⟨w, he⟩, h1⟩ := h1
  exact storeC_sound hx hi he r1 fun s' r' => q .next .next _ _ h1 r'
theorem TS.augC {i : Nat} {x : Str} {e : PySem.Expr} {op : Operator} {p pos : Pos} {a : AV} {P : AFl → ASt → Prop} (hx : c.sc.names.lookup x = some .cell) (hi : (x, i) ∈ c.ci) (ha : st.heap[i]? = some (.cell (some a)))
    (h : TE c e st fun b st1 => Aug op a b fun v => (∃ w, st1.heap[i]? = some (.cell w)) ∧ P .next { st1 with heap := st1.heap.set i (.cell (some v)) }) : TS c (.AugAssign (.Name x p) op e pos) st P := by
  intro fm s hr Q q
  obtain ⟨ρ, N, m, d⟩ := hr
  obtain ⟨b, h1, h2⟩ := d.cel x i hi
  cases h2 with
  | obj hρ =>
    obtain ⟨as', e1, b', o, w', rfl, hm, hdt, y, rfl, hv⟩ := d.heap i _ ha
    rw [hρ] at e1
    cases e1
    refine wpAny_AugAssign_Name (wpAny_loadName_cell c.hk hx h1 ⟨o, d.nw.get hm, hdt⟩ ?_)
    refine h _ _ (show Rel c st (fm.push a y) s from ⟨ρ, N, m, d.push hv⟩) _ fun b u st1 s1 h1 r1 => ?_
    exact aug_sound (P := fun v st1 => (∃ w, st1.heap[i]? = some (.cell w)) ∧ P .next { st1 with heap := st1.heap.set i (.cell (some v)) }) r1 h1 _ fun w z st2 s2 h2 r2 => storeC_sound hx hi h2.1.choose_spec r2 fun s' r' => q .next .next _ _ h2.2 r'
noncomputable def notNone : AV → Bool
  | .none => false
  | _ => true
theorem TT.notNone {l : PySem.Expr} {k : Nat} {p pos : Pos} {P : Bool → ASt → Prop} (h : TE c l st fun a st1 => (match a with | .none => True | .str _ => True | _ => False) ∧ P (Mine.notNone a) st1) : TT c (.Compare l [.IsNot] [.Constant .none k p] pos) st P := by
  intro fm s hr Q q
  refine wpAny_isTrue_Compare1 (h fm s hr _ fun a v st1 s1 h1 r1 => wpAny_Constant_none ?_) rfl
  obtain ⟨h0, h1⟩ := h1
  cases a <;> first | exact h0.elim | skip
  · cases r1.popNone
    exact wpAny_isNot_self rfl (wpAny_truthy_bool (q _ _ _ h1 r1.pop))
  · obtain ⟨t, rfl⟩ := r1.popStr
    exact wpAny_isNot_other rfl (by intro z; cases z) (wpAny_truthy_bool (q _ _ _ h1 r1.pop))
noncomputable def Split (x : Str) (b : AV) (k : AV → Prop) : Prop := match b with
  | .str y => ((y.length == 0) = false ∧ x.length + 2 ≤ sizeLine) ∧ k (.lst ((Txt.split x y).map .str))
  | _ => False
theorem rvs_strs {hb : Heap} {ρ : List (List Addr)} {N : Led} : ∀ {vs : List Value} {ys : List Str}, StrsAre vs ys → RVs hb ρ N (ys.map .str) vs
  | _, _, .nil => .nil
  | _, _, .cons y t h => .cons (.str y t) (rvs_strs h)
theorem TE.split {o e : PySem.Expr} {apos pos : Pos} {P : AV → ASt → Prop} (ho : notCall o = true) (he : plainE e = true) (hpos : (apos.endLine == pos.line) = true)
    (h : TE c o st fun a st1 => ∃ x, a = .str x ∧ TE c e st1 fun b st2 => Split x b fun v => P v st2) : TE c (.Call (.Attribute o (PySem.Str.ofString "split") apos) [e] [] pos) st P := by
  refine TE.strM (id := "str.split") (R := fun x b st2 => Split x b fun v => P v st2) ho he hpos (fun x t pl Q s h => by with_reducible exact GM.split h) (fun x t b w st fm s r h Q q => ?_) h
  unfold Split at h
  split at h
  · obtain ⟨t', rfl⟩ := r.popStr
    have r := r.pop
    obtain ⟨ρ, N, m, d⟩ := r
    refine KSpl.split1 d.F d.nw h.1.1 (fun D l h' k e hS F' N' lt => ?_) h.1.2
    have fr : ∀ p ∈ N, p.1 ≠ D := fun p hp => Nat.ne_of_lt (lt p hp)
    have d' := d.frozen (k := k) F' N' fr
    refine q _ _ _ _ h.2 ⟨ρ, _, m, d'.push ?_⟩
    rw [← e]
    exact .lst (n := 0) (.head _) (d.off fr) (rvs_strs hS)
  · exact h.elim
theorem TE.isalnum {o : PySem.Expr} {apos pos : Pos} {P : AV → ASt → Prop} (ho : notCall o = true) (hpos : (apos.endLine == pos.line) = true)
    (h : TE c o st fun a st1 => ∃ x, a = .str x ∧ P (.bool (Txt.isalnum x)) st1) : TE c (.Call (.Attribute o (PySem.Str.ofString "isalnum") apos) [] [] pos) st P := by
  intro fm s hr Q q
  refine meth_rule ho (by simp) (by simp) hpos (h fm s hr _ fun a v st1 s1 h1 r1 pl => ?_)
  obtain ⟨x, rfl, h1⟩ := h1
  obtain ⟨t, rfl⟩ := r1.popStr
  refine GM.isalnum ?_
  show wpAny c.M c.A (callWith pos (.builtin "str.isalnum") [.str x t] (backTo pos (starEach [] c.env)) []) Q noE s1
  refine callWith_blt (P := fun as st2 => as = [] ∧ P (.bool (Txt.isalnum x)) st2) (by simp) r1.pop (TEs.nil ⟨rfl, h1⟩) fun as ws st2 s2 hl h2 r2 => ?_
  obtain ⟨rfl, h2⟩ := h2
  cases nil_of hl.symm
  exact SC.isalnum (q _ _ _ _ h2 (show Rel c st2 fm s2 from r2).bool)
noncomputable def LAdd (hp : List AO) (a b : AV) (k : AV → Prop) : Prop := match seqOf hp a, seqOf hp b with
  | some l, some l' => l.length + l'.length ≤ sizeLine ∧ k (.lst (l ++ l'))
  | _, _ => False
theorem TE.ladd {l r : PySem.Expr} {pos : Pos} {P : AV → ASt → Prop} (h : TE c l st fun a st1 => TE c r st1 fun b st2 => LAdd st2.heap a b fun x => P x st2) : TE c (.BinOp l .Add r pos) st P := by
  intro fm s hr Q q
  refine wpAny_BinOp (h fm s hr _ fun a v st1 s1 h1 r1 => h1 _ _ r1 _ fun b u st2 s2 h2 r2 => ?_)
  unfold LAdd at h2
  dsimp only at h2
  split at h2
  · rename_i la lb ha hb
    obtain ⟨ρ, N, m, d⟩ := r2
    obtain ⟨x, vs, rfl, g0, g1⟩ := d.pop.listAt d.pop.top ha
    obtain ⟨y, ws, rfl, g2, g3⟩ := d.listAt d.top hb
    have l1 := g1.length
    have l2 := g3.length
    refine add_arrays d.F d.nw g0 g2 (fun h' F' N' => ?_) (by simp only [List.size_toArray]; omega)
    have fresh : ∀ p ∈ N, p.1 ≠ s2.heap.objs.size := fun p hp => Nat.ne_of_lt (Heap.lt_size (d.nw p hp).1)
    have d' := d.pop.pop.frozen (k := s2.toks) F' N' fresh
    refine q _ _ _ _ h2.2 ⟨ρ, _, m, d'.push (.lst (vs := vs ++ ws) (n := 0) (by simpa [lstO, PySem.W.listOf] using List.mem_cons_self) (d.off fresh) ((g1.append g3).mono (grow_cons _)))⟩
  · exact h2.elim
theorem TE.lmul {elts : List PySem.Expr} {n : Int} {k : Nat} {p1 p2 pos : Pos} {P : AV → ASt → Prop} (hn : 0 ≤ n ∧ n ≤ 1000) (h : TEs c (backTo p1 (starEach elts c.env)) st fun as st1 => (as.length ≤ 1000 ∧ as ≠ []) ∧ P (.lst (List.replicate n.toNat as).flatten) st1) :
    TE c (.BinOp (.List elts p1) .Mult (.Constant (.int n) k p2) pos) st P := by
  intro fm s hr Q q
  refine wpAny_BinOp (List_ (h fm s hr _ fun as vs st1 s1 hl h1 r1 => ?_))
  obtain ⟨⟨h1, hne⟩, h2⟩ := h1
  obtain ⟨ρ, N, m, d⟩ := r1
  obtain ⟨vs1, vs2, e1, p1, p2⟩ := d.pend.split
  obtain ⟨rfl, rfl⟩ := List.append_inj e1 (by rw [p1.length, hl])
  refine newList_K d.F d.nw (fun l h' F' N' fresh => ?_) (by rw [← hl]; exact Nat.le_trans h1 (by decide))
  have fr : ∀ p ∈ N, p.1 ≠ l := fun p hp => Nat.ne_of_lt (fresh p hp)
  have d' := d.frozen (k := s1.toks) F' N' fr
  refine wpAny_Constant_int ?_
  have hsz : vs.toArray.size * n.toNat ≤ 2 ^ 24 := by
    rw [List.size_toArray, ← hl]
    have : as.length * n.toNat ≤ 1000 * 1000 := Nat.mul_le_mul h1 (by omega)
    omega
  have hem : vs.toArray.isEmpty = false := by
    cases vs with
    | nil => exact absurd (List.length_eq_zero_iff.mp hl) hne
    | cons _ _ => rfl
  refine mul_list (k := 0) d'.F d'.nw (d'.nw.get (.head _)) (by omega) (by omega) hsz (fun h2' F2 N2 => ?_)
  rw [if_neg (by rw [hem]; decide), listMul_foldl] at N2
  have fresh2 : ∀ p ∈ ((l, PySem.W.listOf vs.toArray 0) :: N), p.1 ≠ h'.objs.size := fun p hp => Nat.ne_of_lt (Heap.lt_size (N' p hp).1)
  have d2 := d'.frozen (k := s1.toks + 1) F2 N2 fresh2
  have rep : ∀ k : Nat, RVs c.base ρ N (List.replicate k as).flatten (List.replicate k vs).flatten := by
    intro k
    induction k with
    | zero => exact .nil
    | succ k ih => simpa [List.replicate_succ] using p1.append ih
  refine q _ _ _ _ h2 ⟨ρ, _, m, (d2.fmTo (fm' := fm) ((p2.mono (grow_cons _)).mono (grow_cons _)) rfl).push (.lst (vs := (List.replicate n.toNat vs).flatten) (n := 0) (by simpa [lstO, PySem.W.listOf] using List.mem_cons_self) (d'.off fresh2) (((rep n.toNat).mono (grow_cons _)).mono (grow_cons _)))⟩
noncomputable def Neg (a : AV) (k : AV → Prop) : Prop := match a with
  | .int i => k (.int (-i))
  | _ => False
theorem TE.neg {e : PySem.Expr} {pos : Pos} {P : AV → ASt → Prop} (h : TE c e st fun a st1 => Neg a fun v => P v st1) : TE c (.UnaryOp .USub e pos) st P := by
  intro fm s hr Q q
  refine wpAny_UnaryOp (h fm s hr _ fun a v st1 s1 h1 r1 => ?_)
  unfold Neg at h1
  dsimp only at h1
  split at h1
  · obtain ⟨t, rfl⟩ := r1.popInt
    exact PyProof.Rows.neg_int (q _ _ _ _ h1 r1.pop.int)
  · exact h1.elim
end
end Mine
end
section
set_option maxRecDepth 20000
namespace Mine
theorem list_iaddW (l b : Addr) (items items2 : Array Value) (n n2 : Nat) (dd2 : Option Addr) (sl2 : Array (Option Value)) (hs0 : ¬(!items.isEmpty && Builtin.List.listTooLong (items.size + items2.size)) = true) (hs1 : items.size ≤ sizeLine) (hs2 : items.size + items2.size ≤ sizeLine + 1) :
    Meets (Builtin.«list.__iadd__» ⟨[.ref l, .ref b], []⟩) (fun _ R s => s.heap.get? l = some { cls := .type "list", dict := none, data := .seq items n, slots := #[] } ∧ s.heap.get? b = some { cls := .type "list", dict := dd2, data := .seq items2 n2, slots := sl2 } ∧ R (.ok (.ret (Value.ref l))) { s with heap := s.heap.update l (Obj.mapSeq fun x => x ++ items2), toks := s.toks }) :=
  .of_wp fun prog w A R s h => by
    obtain ⟨hp, g, d, tk, os⟩ := s; obtain ⟨hl, hb, h⟩ := h; have f1 := AutoSeq1.idx_int; have f2 := AutoSeq1.sub_tuple_tuple; have f3 := AutoSeq1.sub_list_list; have f4 := AutoSeq1.sub_tuple_list; have f5 := AutoSeq1.sub_list_tuple
    have hz' : (items ++ items2).size ≤ sizeLine + 1 := by rw [Array.size_append]; exact hs2
    wp_walk using (wpAny_updateSeq hl rfl (hz := hs1) (_hz' := hz')), wpAny_loadPart' hl, wpAny_loadPart' hb; exact ⟨_, rfl, h⟩
theorem inplace_list {M : Model} {A : Around} {E : Value → Shared → Prop} {s : Shared} {a b : Value} {Q : Value → Shared → Prop} (ha : s.TypeIs a "list") (hb : s.TypeIs b "list") (hc : wpAny M A (call (.builtin "list.__iadd__") [a, b]) Q E s) : wpAny M A (inplaceOp .Add a b) Q E s := by
  unfold inplaceOp
  refine wpAny_holding ?_
  have hfi : fillsInplaceSlot (.type "list") "add" (Operator.Add == .Add) = pure false := by
    unfold fillsInplaceSlot
    show (typeLookup (.type "list") (dunderI "add") >>= fun fi => pure (fi.isSome && !isSeqSlot fi)) = pure false
    rw [PySem.F.slot_list_iadd.lookup]
    show (pure (_ && !isSeqSlot (some (.builtin "list.__iadd__"))) : Sem Bool) = pure false
    rw [show isSeqSlot (some (.builtin "list.__iadd__")) = true by decide +kernel]
    rfl
  have hsi : seqSlot? (.type "list") (dunderI "add") = pure (some (.builtin "list.__iadd__")) := PySem.seqSlot_of PySem.F.slot_list_iadd.lookup (by decide +kernel)
  refine wpAny_bind (wpAny_typeOf ha (wpAny_bind (wpAny_of_eq hfi ?_)))
  show wpAny M A (if false = true then _ else _) Q E s
  rw [if_neg Bool.false_ne_true]
  refine wpAny_bind (wpAny_binaryOp1_none (nm := "add") ha hb noFill_list_add ?_)
  refine wpAny_bind (wpAny_of_eq hsi ?_)
  exact wpAny_bind (wpAny_rule hc)
section
variable {G : Gl} {c : Cx G} {st : ASt} {fm : Fm} {s : Shared}
noncomputable def Ext (hp : List AO) (a b : AV) (P : List AO → Prop) : Prop := match a with
  | .obj j => (match hp[j]?, seqOf hp b with
    | some (.list l), some l' => l.length + l'.length ≤ sizeLine ∧ P (hp.set j (.list (l ++ l')))
    | _, _ => False)
  | _ => False
theorem ext_sound {a b : AV} {v u : Value} {Q : Value → Shared → Prop} {P : ASt → Prop} (r : Rel c st ((fm.push a v).push b u) s) (h : Ext st.heap a b fun hp => P { st with heap := hp }) (q : ∀ st' s', P st' → Rel c st' (fm.push a v) s' → Q v s') : wpAny c.M c.A (inplaceOp .Add v u) Q noE s := by
  unfold Ext at h
  split at h
  · rename_i j
    split at h
    · rename_i l l' hj hl'
      obtain ⟨ρ, N, m, d⟩ := r
      obtain ⟨y, ws, rfl, ⟨ob, b1, b2, nb, b3⟩, g3⟩ := d.listAt d.top hl'
      have da := d.pop
      cases da.top with
      | @obj _ x _ hρ =>
        obtain ⟨as, e1, x2, vs, n, e2, h2, h3⟩ := d.heap _ _ hj
        rw [hρ] at e1
        have e1 := (Option.some.inj e1).trans e2
        injection e1 with e1 e3
        subst e1 e3
        obtain ⟨ocls, odd, odata, osl⟩ := ob
        simp only at b2 b3
        subst b2 b3
        have nx := d.nw _ h2
        have l1 := h3.length
        have l2 := g3.length
        have hsz := h.1
        refine inplace_list ⟨_, nx.1, rfl⟩ ⟨_, b1, rfl⟩ (call_meets PySem.F.slot_list_iadd ⟨_, nx.1, rfl⟩ PySem.F.entry_list_iadd (PySem.F.args_list_iadd_2 _ _) (list_iaddW x y vs.toArray ws.toArray n nb odd osl ?_ ?_ ?_) ⟨nx.1, b1, ?_⟩)
        · simp only [List.size_toArray, Builtin.List.listTooLong]
          rw [decide_eq_false (by omega)]
          simp
        · simp only [List.size_toArray]; omega
        · simp only [List.size_toArray]; omega
        · have s1 := Heap.SameBut.update s.heap x (Obj.mapSeq fun z => z ++ ws.toArray)
          obtain ⟨e', ho1⟩ : ∃ e', (s.heap.update x (Obj.mapSeq fun z => z ++ ws.toArray)).get? x = some (lstO (vs ++ ws) e') := ⟨_, by simpa using get?_update_seq nx.1 fun z => z ++ ws.toArray⟩
          obtain ⟨N', u⟩ := upd_of (o' := lstO (vs ++ ws) e') d.nd h2
          have F' := kas_fr d.F s1 nx.2.1 nx.2.2
          have NN : News c.h₀ c.L (s.heap.update x (Obj.mapSeq fun z => z ++ ws.toArray)) N' := by
            have nw := d.nw
            obtain ⟨pre, post, e0, e1, z1, z2⟩ := u.split
            rw [e0] at nw
            rw [e1]
            exact nw.setAt z1 z2 s1 ho1
          have g : Grow ρ ρ N N' := grow_upd d.nd u lst_tup fun _ => own_mem hρ (.head _)
          exact q _ _ h.2 ⟨ρ, N', m, da.upd (k := s.toks) F' NN u hρ (.head _) lst_tup ⟨x, vs ++ ws, e', rfl, upd_new u, (h3.mono g).append (g3.mono g)⟩⟩
    · exact h.elim
  · exact h.elim
theorem TS.ext {i : Nat} {x : Str} {e : PySem.Expr} {p pos : Pos} {a : AV} {P : AFl → ASt → Prop} (hx : c.sc.names[i]? = some (x, .local)) (ha : st.env[i]? = some (some a))
    (h : TE c e st fun b st1 => Ext st1.heap a b fun hp => P .next { st1 with heap := hp, env := st1.env.set i (some a) }) : TS c (.AugAssign (.Name x p) .Add e pos) st P := by
  intro fm s hr Q q
  obtain ⟨ρ, N, m, d⟩ := hr
  obtain ⟨y, v, h1, h2, h3⟩ := d.env i a ha
  rw [hx] at h1
  cases h1
  refine wpAny_AugAssign_Name (wpAny_loadName_local c.hk (lookup_of_get c.nd hx) d.F.ns h2 ?_)
  refine h _ _ (show Rel c st (fm.push a v) s from ⟨ρ, N, m, d.push h3⟩) _ fun b u st1 s1 h1 r1 => ?_
  exact ext_sound (P := fun st2 => P .next { st2 with env := st2.env.set i (some a) }) r1 h1 fun st2 s2 h2 r2 => store_sound hx r2 fun s' r' => q .next .next _ _ h2 r'
end
noncomputable def firsts : List AV → Option (List Int)
  | [] => some []
  | .tup (.int i :: _) :: l => (firsts l).map (i :: ·)
  | _ => none
inductive Tups (N : Led) : List Value → List Int → Prop
  | nil : Tups N [] []
  | cons {a : Addr} {i : Int} {t : Tok} {r vs : List Value} {is : List Int} (h : (a, tupO (.int i t :: r)) ∈ N) (q : Tups N vs is) : Tups N (.ref a :: vs) (i :: is)
theorem tups_of {hb : Heap} {ρ : List (List Addr)} {N : Led} : ∀ {l : List AV} {vs : List Value} {is : List Int}, RVs hb ρ N l vs → firsts l = some is → Tups N vs is := by
  intro l
  induction l with
  | nil => intro vs is r h; cases r; cases h; exact .nil
  | cons a l ih =>
    intro vs is r h
    cases r with
    | cons r1 r2 =>
      cases a with
      | tup l' =>
        cases l' with
        | nil => cases h
        | cons b l' =>
          cases b with
          | int i =>
            simp only [firsts, Option.map_eq_some_iff] at h
            obtain ⟨js, h1, rfl⟩ := h
            cases r1 with
            | tup hm q =>
              cases q with
              | cons q1 q2 =>
                cases q1
                exact .cons hm (ih r2 h1)
          | _ => cases h
      | _ => cases h
theorem Tups.mono {N N' : Led} {vs : List Value} {is : List Int} (h : Tups N vs is) (k : ∀ p ∈ N, p ∈ N') : Tups N' vs is := by
  induction h with
  | nil => exact .nil
  | cons h _ ih => exact .cons (k _ h) ih
theorem Tups.len {N : Led} {vs : List Value} {is : List Int} (h : Tups N vs is) : is.length = vs.length := by
  induction h with
  | nil => rfl
  | cons _ _ ih => simp [ih]
theorem Tups.kat {h₀ h : Heap} {L : Addr} {N : Led} {vs : List Value} {is : List Int} (W : News h₀ L h N) (t : Tups N vs is) : ∃ fs, KatTups h vs fs ∧ fs.length = is.length ∧ ∀ v ∈ fs, ∃ i t, v = Value.int i t := by
  induction t with
  | nil => exact ⟨[], .nil, rfl, fun _ h => nomatch h⟩
  | cons hm _ ih =>
    obtain ⟨fs, h1, h2, h3⟩ := ih
    refine ⟨_ :: fs, .cons (W.get hm) rfl rfl rfl h1, by simp [h2], fun v hv => ?_⟩
    rcases List.mem_cons.mp hv with rfl | hv
    · exact ⟨_, _, rfl⟩
    · exact h3 v hv
theorem Tups.at {N : Led} {vs : List Value} {is : List Int} (h : Tups N vs is) {k : Nat} (hk : k < vs.length) : ∃ a i t r, vs.getD k .none = .ref a ∧ is[k]? = some i ∧ (a, tupO (.int i t :: r)) ∈ N := by
  induction h generalizing k with
  | nil => simp at hk
  | cons hm _ ih =>
    cases k with
    | zero => exact ⟨_, _, _, _, rfl, rfl, hm⟩
    | succ k => exact ih (by simpa using hk)
section
variable {prog : Program} {w : World} {A : Around} {E : Value → Shared → Prop} {s : Shared} {h₀ : Heap} {L : Addr} {m : Str → Option Value} {N : Led} {vs : List Value} {is : List Int}
theorem ask_asc {C : Bool → Shared → Prop} (W : News h₀ L s.heap N) (t : Tups N vs is) {i j : Nat} (hi : i < vs.length) (hj : j < vs.length) (hlt : ∀ a b, is[i]? = some a → is[j]? = some b → b < a) (h : C false s) : kas_ask prog w A (tuples' true) vs i j C s := by
  obtain ⟨a, x, u, r, e1, e2, e3⟩ := t.at hi
  obtain ⟨b, y, u', r', f1, f2, f3⟩ := t.at hj
  have hxy := hlt x y e2 f2
  unfold kas_ask
  rw [e1, f1]
  refine kat_lt (W.get e3) rfl (W.get f3) rfl ?_
  refine kat_cons (wpAny_eqBool_int ?_)
  rw [show (x == y) = false from beq_eq_false_iff_ne.mpr (by omega)]
  refine kat_no ?_
  show wpAny (model prog w) A (oneLt' true _ _) _ _ _
  refine oneLt_int ?_
  rw [decide_eq_false (by omega)]
  exact h
theorem asc_go {Q : Nat → Shared → Prop} (W : News h₀ L s.heap N) (t : Tups N vs is) (hp : is.Pairwise (· < ·)) : ∀ (f k : Nat), 1 ≤ k → k + f = vs.length → Q vs.length s → (kas_asc (List.toArray (List.range vs.length)) f k).kasWp (kas_ask prog w A (tuples' true) vs) Q s
  | 0, k, _, hk, h => by
    have : k = vs.length := by omega
    subst this
    exact h
  | f + 1, k, h1, hk, h => by
    have e1 : (List.toArray (List.range vs.length)).getD k 0 = k := by simp [Array.getD, show k < vs.length by omega]
    have e2 : (List.toArray (List.range vs.length)).getD (k - 1) 0 = k - 1 := by simp [Array.getD, show k - 1 < vs.length by omega]
    unfold kas_asc
    rw [e1, e2]
    refine ask_asc W t (by omega) (by omega) (fun a b ha hb => ?_) ?_
    · obtain ⟨ha1, ha2⟩ := List.getElem?_eq_some_iff.mp ha
      obtain ⟨hb1, hb2⟩ := List.getElem?_eq_some_iff.mp hb
      have := List.pairwise_iff_getElem.mp hp (k - 1) k hb1 ha1 (by omega)
      rw [ha2, hb2] at this
      exact this
    · show (if false = true then _ else _ : KasT Nat).kasWp _ _ _
      rw [if_neg Bool.false_ne_true]
      exact asc_go W t hp f (k + 1) (by omega) (by omega) h
theorem range_getD (vs : List Value) : ((List.toArray (List.range vs.length)).toList.map fun i => vs.getD i Value.none) = vs := by
  apply List.ext_getElem?
  intro i
  simp only [List.getElem?_map, List.getElem?_range']
  by_cases h : i < vs.length
  · simp [h, List.getElem?_range]
  · simp [List.getElem?_eq_none (Nat.le_of_not_lt h), List.getElem?_eq_none (show (List.range vs.length).length ≤ i by simp; omega)]
theorem sort_asc {Q : Array Nat → Shared → Prop} (W : News h₀ L s.heap N) (t : Tups N vs is) (hp : is.Pairwise (· < ·)) (h2 : 2 ≤ vs.length) (h : Q (List.toArray (List.range vs.length)) s) :
    (kas_sort vs.length).kasWp (kas_ask prog w A (tuples' true) vs) Q s := by
  unfold kas_sort kas_count
  rw [KasT.kasWp_bind, KasT.kasWp_bind]
  refine asc_go W t hp (vs.length - 1) 1 (Nat.le_refl 1) (by omega) ?_
  rw [if_pos (by simp)]
  show (if vs.length < vs.length then _ else _ : KasT (Array Nat)).kasWp _ _ _
  rw [if_neg (Nat.lt_irrefl _)]
  exact h
theorem sort_one {a : Addr} {v : Value} {n : Nat} {P : PySem.Fin → Shared → Prop} (ho : s.heap.get? a = some (seqObj "list" [v].toArray n)) (h : P (.done (.ret .none)) { s with heap := sortedHeap s.heap a [v] #[v] }) :
    wpAny (model prog w) A (Builtin.«list.sort» ⟨[.ref a], []⟩) P E s := by
  rw [list_sort_plain]
  have ha : a < s.heap.objs.size := Heap.lt_size ho
  obtain ⟨e1, ho1⟩ : ∃ e1, (s.heap.update a (Obj.mapSeq fun _ => #[])).get? a = some (seqObj "list" #[] e1) := ⟨_, get?_update_seq ho (fun _ => #[])⟩
  have ho6 : (((s.heap.update a (Obj.mapSeq fun _ => #[])).push (seqObj "tuple" [v].toArray 0)).push (seqObj "list" #[] 0)).get? a = some (seqObj "list" #[] e1) := by
    rw [Heap.get?_push_ne _ _ _ (by rw [size_push', Heap.size_update]; exact Nat.ne_of_lt (Nat.lt_succ_of_lt ha)), Heap.get?_push_ne _ _ _ (by rw [Heap.size_update]; exact Nat.ne_of_lt ha)]
    exact ho1
  refine wpAny_bind (listItems_at ho rfl (wpAny_bind (listUpdate_at ho rfl (wpAny_bind (seqEpoch_at ho1 rfl (wpAny_bind (wpAny_newTuple (wpAny_bind (wpAny_newList (wpAny_holding ?_) (Nat.zero_le _))) (by simp [sizeLine_eq])))) ) (by simp [sizeLine_eq]) (by simp))))
  show wpAny (model prog w) A _ P E { s with heap := ((s.heap.update a (Obj.mapSeq fun _ => #[])).push (seqObj "tuple" [v].toArray 0)).push (seqObj "list" #[] 0) }
  dsimp only
  rw [if_pos (by simp), if_pos (by simp)]
  refine wpAny_bind (wpAny_pure ?_)
  rw [StateT.run_pure]
  refine wpAny_bind (wpAny_pure ?_)
  dsimp only
  have hout : Array.map (fun x : Keyed => x.2) (arrOf (SortSt.mk' general' ([v].toArray.zip [v].toArray) #[] 7 none)) = #[v] := by
    show Array.map (fun x : Keyed => x.2) ([v].toArray.zip [v].toArray) = #[v]
    simp
  refine wpAny_bind (seqEpoch_at ho6 rfl ?_)
  rw [hout]
  refine wpAny_bind (listUpdate_at ho6 rfl ?_ (by simp) (by rw [sizeLine_eq]; simp))
  simp only [bne_self_eq_false, Bool.false_eq_true, if_false]
  exact wpAny_pure h
theorem sorted_one {l : Addr} {v : Value} {Q : Value → Shared → Prop} (F : Fr h₀ L s.heap m) (W : News h₀ L s.heap N) (hl : s.heap.IsList l [v].toArray)
    (h : ∀ h' e, Fr h₀ L h' m → News h₀ L h' ((s.heap.objs.size + 1, seqObj "list" [v].toArray e) :: N) → Q (.ref (s.heap.objs.size + 1)) { s with heap := h' }) :
    wpAny (model prog w) A (call (.builtin "sorted") [.ref l]) Q E s := by
  refine Calls.call_function_entry kind_sorted plain_sorted entry_sorted (args_sorted1 _) ?_
  unfold Builtin.«sorted»
  refine wpAny_bind (m := checkCount "sorted" 1 1 _) (wpAny_pure ?_)
  refine wpAny_bind (collect_list hl ?_ (by simp [sizeLine_eq]))
  refine wpAny_bind (wpAny_newList ?_ (by simp [sizeLine_eq]))
  have hsz : ((s.heap.push (seqObj "list" #[] 0)).update s.heap.objs.size (Obj.mapSeq (· ++ [v].toArray))).objs.size = s.heap.objs.size + 1 := by
    rw [Heap.size_update, size_push']
  have hoL : (((s.heap.push (seqObj "list" #[] 0)).update s.heap.objs.size (Obj.mapSeq (· ++ [v].toArray))).push (seqObj "list" [v].toArray 0)).get? (s.heap.objs.size + 1) = some (seqObj "list" [v].toArray 0) := by
    rw [← hsz]; exact Heap.get?_push_size _ rfl
  show wpAny _ _ _ _ _ { s with heap := ((s.heap.push (seqObj "list" #[] 0)).update s.heap.objs.size (Obj.mapSeq (· ++ [v].toArray))).push (seqObj "list" [v].toArray 0) }
  rw [hsz]
  refine wpAny_bind (wpAny_holding (wpAny_call_entry slot_list_sort ⟨_, hoL, rfl⟩ entry_list_sort (sort_one hoL ⟨_, rfl, ?_⟩) (args_list_sort _)))
  obtain ⟨e, he⟩ := sortedAll_at s.heap [v] #[v]
  exact wpAny_pure ⟨_, rfl, h (sortedAll s.heap [v] #[v]) e (F.kept fun _ _ => sortedAll_old) (W.kept_cons F (fun _ _ => sortedAll_old) (Nat.le_succ _) he)⟩
end
section
variable {G : Gl} {c : Cx G} {st : ASt} {fm : Fm} {s : Shared}
noncomputable def Sorted (hp : List AO) (b : AV) (k : AV → Prop) : Prop := match seqOf hp b with
  | some l => (∃ is, firsts l = some is ∧ is.Pairwise (· < ·) ∧ 1 ≤ l.length ∧ l.length < 64) ∧ k (.lst l)
  | none => False
theorem TE.sorted {e : PySem.Expr} {p pos : Pos} {P : AV → ASt → Prop} (hx : c.sc.names.lookup (PySem.Str.ofString "sorted") = some .globalImplicit) (hg : nsIn G.K mainGlobals "sorted" = some Option.none) (he : plainE e = true)
    (h : TE c e st fun b st1 => Sorted st1.heap b fun v => P v st1) : TE c (.Call (.Name (PySem.Str.ofString "sorted") p) [e] [] pos) st P := by
  refine TE.blt1 (id := "sorted") hx (by decide) hg (by rfl) (by decide) he (fun b w st fm s r h Q q => ?_) h
  unfold Sorted at h
  split at h
  · rename_i l hl
    obtain ⟨⟨is, h1, h2, h3, h4⟩, h5⟩ := h
    obtain ⟨ρ, N, m, d⟩ := r
    obtain ⟨y, vs, rfl, g0, g3⟩ := d.listAt d.top hl
    have hlen := g3.length
    have t := tups_of g3 h1
    have tl := t.len
    have fin : ∀ (D : Addr) (h' : Heap) (e : Nat), Fr c.h₀ c.L h' m → News c.h₀ c.L h' ((D, lstO vs e) :: N) → (∀ p ∈ N, p.1 ≠ D) → Q (.ref D) { s with heap := h' } := by
      intro D h' e F' N' fr
      have d' := d.pop.frozen (k := s.toks) F' N' fr
      exact q _ _ _ _ h5 ⟨ρ, _, m, d'.push (.lst (n := e) (.head _) (d.off fr) (g3.mono (grow_cons _)))⟩
    by_cases h2' : 2 ≤ vs.length
    · refine kat_sorted d.F d.nw g0 h2' (by omega) fun D e1 h' F' N' lt => ?_
      have t' : Tups ((D, seqObj "list" #[] e1) :: N) vs is := t.mono fun _ h => .tail _ h
      obtain ⟨fs, k1, k2, k3⟩ := t'.kat N'
      refine kat_kind (T := .type "int") k1 (by omega) (fun v hv => ?_) (by decide) ?_
      · obtain ⟨i, u, rfl⟩ := k3 v hv
        exact Looks.now
      · show (kas_sort vs.length).kasWp (kas_ask _ _ _ (tuples' true) vs) _ _
        refine sort_asc N' t' h2 h2' ?_
        rw [range_getD]
        have fr : ∀ p ∈ N, p.1 ≠ D := fun p hp => Nat.ne_of_lt (lt p hp)
        exact KasFin.intro F' N' (.head fr) fun h2 c2 F2 N2 => fin D h2 c2 F2 N2 fr
    · obtain ⟨v, rfl⟩ : ∃ v, vs = [v] := by
        match vs, hlen, h2' with
        | [v], _, _ => exact ⟨v, rfl⟩
        | [], hlen, _ => simp at hlen; omega
        | _ :: _ :: _, _, h2' => simp at h2'
      exact sorted_one d.F d.nw g0 fun h' e F' N' => fin _ h' e F' N' fun p hp => Nat.ne_of_lt (Nat.lt_succ_of_lt (Heap.lt_size (d.nw p hp).1))
  · exact h.elim
end
end Mine
end
section
open PyProof.Rows.LCg (SrcAt)
set_option maxRecDepth 20000
namespace Mine
noncomputable def Prs (n : Nat) : List AV → Option (List AV)
  | [] => some []
  | .tup [.str c, .int i] :: l => (Prs n l).map (.tup [.int ((n : Int) + i), .str c] :: ·)
  | _ => none
theorem prs_inv {n : Nat} {b : AV} {l out : List AV} (h : Prs n (b :: l) = some out) : ∃ c i out', b = .tup [.str c, .int i] ∧ Prs n l = some out' ∧ out = .tup [.int ((n : Int) + i), .str c] :: out' := by
  unfold Prs at h
  split at h
  · rename_i e; cases e
  · rename_i e
    injection e with e1 e2
    subst e1 e2
    obtain ⟨out', ho, rfl⟩ := Option.map_eq_some_iff.mp h
    exact ⟨_, _, _, rfl, ho, rfl⟩
  · cases h
theorem row_inv {hb : Heap} {ρ : List (List Addr)} {N : Led} {c : Str} {i : Int} {v : Value} (h : RV hb ρ N (.tup [.str c, .int i]) v) : ∃ t tc ti, v = .ref t ∧ (t, tupO [.str c tc, .int i ti]) ∈ N := by
  cases h with
  | tup hm ht =>
    cases ht with
    | cons ht1 ht2 =>
      cases ht2 with
      | cons ht2 ht3 =>
        cases ht3
        cases ht1
        cases ht2
        exact ⟨_, _, _, rfl, hm⟩
theorem sub_rot {α : Type} {i c d h : α} {l : List α} : ∀ p ∈ c :: d :: h :: i :: l, p ∈ i :: c :: d :: h :: l := by
  intro p hp
  simp only [List.mem_cons] at hp ⊢
  rcases hp with e | e | e | e | e
  · exact .inr (.inl e)
  · exact .inr (.inr (.inl e))
  · exact .inr (.inr (.inr (.inl e)))
  · exact .inl e
  · exact .inr (.inr (.inr (.inr e)))
theorem Prs.len {n : Nat} : ∀ {l l' : List AV}, Prs n l = some l' → l'.length = l.length
  | [], l', h => by cases h; rfl
  | a :: l, l', h => by
    unfold Prs at h
    split at h
    · rename_i e; cases e
    · rename_i e
      injection e with e1 e2
      subst e2
      obtain ⟨k, h1, rfl⟩ := Option.map_eq_some_iff.mp h
      simp [Prs.len h1]
    · cases h
noncomputable def prScope (x1 x2 w : Str) (sc : Scope) : Bool :=
  decide (sc.kind = .function) && decide (sc.names = [(PySem.Str.ofString ".0", .local), (x1, .local), (x2, .local), (PySem.Str.ofString "len", .globalImplicit), (w, .free)]) &&
    decide ([PySem.Str.ofString ".0", x1, x2, PySem.Str.ofString "len", w, PySem.Str.ofString "__debug__", PySem.Str.ofString "__classdict__"].Nodup)
section
variable {G : Gl} {c : Cx G} {st : ASt} {fm : Fm} {s : Shared}
theorem relab {sc : Scope} {x1 x2 w : Str} {env : Env} (h : sc.names = [(PySem.Str.ofString ".0", .local), (x1, .local), (x2, .local), (PySem.Str.ofString "len", .globalImplicit), (w, .free)]) (hk : env.scope.kind = .function) (hw : env.kindOf w = some .cell) :
    (relabel sc env).names = [(PySem.Str.ofString ".0", .local), (x1, .local), (x2, .local), (PySem.Str.ofString "len", .globalImplicit), (w, .cell)] := by
  unfold relabel
  rw [h]
  simp only [List.map_cons, List.map_nil, hk, hw]
  rfl
theorem TE.pairs {x1 x2 y w : Str} {j i n1 n2 : Nat} {p1 p2 p3 p4 p5 p6 p7 q1 q2 q3 q4 pos : Pos} {sc : Scope} {l l' : List AV} {x : Str} {P : AV → ASt → Prop} (hsc : prScope x1 x2 w sc = true) (hg : nsIn G.K mainGlobals "len" = some Option.none)
    (hy : c.sc.names[j]? = some (y, .local)) (hyd : (y == ("__debug__" : Str)) = false) (hw : c.sc.names.lookup w = some .cell) (hi : (w, i) ∈ c.ci) (hl : st.env[j]? = some (some (.lst l))) (hx : st.heap[i]? = some (.cell (some (.str x)))) (hp : Prs x.length l = some l')
    (hsz : x.length ≤ sizeLine ∧ l.length ≤ 1000) (h : P (.lst l') st) :
    TE c (.ListComp (.Tuple [.BinOp (.Call (.Name (PySem.Str.ofString "len") p1) [.Name w p2] [] p3) .Add (.Name x2 p4) p5, .Name x1 p6] n1 p7) [⟨.Tuple [.Name x1 q1, .Name x2 q2] n2 q3, .Name y q4, [], 0⟩] sc pos) st P := by
  intro fm s hr Q q
  unfold prScope at hsc
  simp only [Bool.and_eq_true, decide_eq_true_eq] at hsc
  obtain ⟨⟨hk, hnm⟩, hnd⟩ := hsc
  simp only [List.nodup_cons, List.mem_cons, List.not_mem_nil, or_false, not_or, not_false_eq_true, List.nodup_nil, and_true] at hnd
  obtain ⟨⟨d01, d02, d03, d04, d05, d06⟩, ⟨d12, d13, d14, d15, d16⟩, ⟨d23, d24, d25, d26⟩, ⟨d34, d35, d36⟩, ⟨d45, d46⟩, d56⟩ := hnd
  obtain ⟨ρ, N, m, d⟩ := hr
  obtain ⟨cw, hcw, rw'⟩ := d.cel w i hi
  obtain ⟨cN, co, hcN, hcd⟩ : ∃ (hh : Unit) (o : Obj), (cw, o) ∈ N ∧ ∃ t, o.data = .cell (some (.str x t)) := by
    cases rw' with
    | @obj _ a0 _ hρ =>
      obtain ⟨as', e1, b', o, w', e2, hm, hdt, z, rfl, hv⟩ := d.heap i _ hx
      rw [hρ] at e1
      have e1 := (Option.some.inj e1).trans e2
      injection e1 with e1 e3
      subst e1
      cases hv
      exact ⟨(), o, hm, _, hdt⟩
  obtain ⟨tw, hcd⟩ := hcd
  have kw : c.env.kindOf w = some .cell := hw
  have rl := relab (env := c.env) hnm c.hk kw
  obtain ⟨y', v, y1, y2, y3⟩ := d.env j _ hl
  rw [hy] at y1
  cases y1
  have hclos : closureFor sc c.env = pure [(w, cw)] := by
    unfold closureFor
    rw [hnm]
    have : cellOf c.env w = pure cw := by
      unfold cellOf
      rw [show c.env.cells.lookup w = some cw from hcw]
    simp [this]
  have E1 : (compEnvC sc [(w, cw)] 0 c.env).scope.kind = .function := hk
  have nd : (sc.names.map (·.1)).Nodup := by
    rw [hnm]
    simp only [List.map_cons, List.map_nil, List.nodup_cons, List.mem_cons, List.not_mem_nil, or_false, not_or, not_false_eq_true, List.nodup_nil, and_true]
    exact ⟨⟨d01, d02, d03, d04⟩, ⟨d12, d13, d14⟩, ⟨d23, d24⟩, d34⟩
  have ndr : ((relabel sc c.env).names.map (·.1)).Nodup := by
    rw [rl]
    rw [hnm] at nd
    exact nd
  have L1 : (relabel sc c.env).names.lookup x1 = some .local := lookup_of_get ndr (i := 1) (by rw [rl]; rfl)
  have L2 : (relabel sc c.env).names.lookup x2 = some .local := lookup_of_get ndr (i := 2) (by rw [rl]; rfl)
  have L3 : (relabel sc c.env).names.lookup (PySem.Str.ofString "len") = some .globalImplicit := lookup_of_get ndr (i := 3) (by rw [rl]; rfl)
  have L4 : (relabel sc c.env).names.lookup w = some .cell := lookup_of_get ndr (i := 4) (by rw [rl]; rfl)
  have hkr : (relabel sc c.env).kind = .function := hk
  have main : ∀ (vs : List Value) (a : Addr) (g : Heap), ∀ (k i : Nat) (ys : List Value) (news : Led) (lr dn out : List AV) (rest : List Value), vs.drop i = rest → RVs c.base ρ N lr rest → rest.length = k → Prs x.length lr = some out → (∀ p ∈ N, p ∈ news) → (news.map (·.1)).Nodup → SrcAt c.h₀ a vs.toArray news → RVs c.base ρ news dn ys → dn ++ out = l' →
      LCp.CompRestP G.prog G.w c.A c.h₀ c.L m c.env (.Tuple [.BinOp (.Call (.Name (PySem.Str.ofString "len") p1) [.Name w p2] [] p3) .Add (.Name x2 p4) p5, .Name x1 p6] n1 p7) x1 x2 sc [(w, cw)] { s with heap := g } (SrcAt c.h₀ a vs.toArray) (fun i v => vs.toArray[i]? = some v) (LCg.FinE c.h₀ c.L m { s with heap := g } Q) k i ys news := by
    intro vs a g k
    induction k with
    | zero =>
      intro i ys news lr dn out rest hdr hr hlen hout hsub hnd' hS hys hl'
      refine LCp.CompRestP.zero fun D hh tk F' N' off => ?_
      have hr0 : rest = [] := List.length_eq_zero_iff.mp hlen
      subst hr0
      cases hr
      cases hout
      rw [List.append_nil] at hl'
      subst hl'
      have off' : ∀ p ∈ news, p.1 ≠ D := by
        clear hsub hnd' hS hys N'
        induction news with
        | nil => intro p hp; cases hp
        | cons q news ih =>
          intro p hp
          rcases List.mem_cons.mp hp with rfl | hp
          · exact off.1
          · exact ih off.2 p hp
      have d2 : RelD c st fm { s with heap := hh, toks := tk } ρ news m := d.more F' (fun p hp => N' p (.tail _ hp)) hnd' hsub
      have d3 := d2.frozen (k := tk) F' N' off'
      exact q _ _ _ _ h ⟨ρ, _, m, d3.push (.lst (vs := ys) (n := ys.length) (.head _) (d2.off off') (hys.mono (grow_cons _)))⟩
    | succ k ih =>
      intro i ys news lr dn out rest hdr hr hlen hout hsub hnd' hS hys hl'
      cases hr with
      | nil => cases hlen
      | @cons b v lr vr h1 h2 =>
        obtain ⟨cc, ii, out', rfl, ho, rfl⟩ := prs_inv hout
        obtain ⟨t, tc, ti, rfl, hm⟩ := row_inv h1
        refine LCp.CompRestP.succ fun v' hv => ⟨t, _, .str cc tc, .int ii ti, _, ?_, hsub _ hm, rfl, rfl, fun I oI C oC D m₂ hh tk E' hC hx1 hx2 F' N' off ne => ?_⟩
        · have e : vs[i]? = some (Value.ref t) := by
            have := congrArg (fun z => z[0]?) hdr
            simpa using this
          have hv : vs[i]? = some v' := by simpa using hv
          rw [e] at hv
          exact (Option.some.inj hv).symm
        · have mC : (C, oC) ∈ ((I, oI) :: (C, oC) :: (D, LCg.lst ys) :: news) := .tail _ (.head _)
          have mW : (cw, co) ∈ ((I, oI) :: (C, oC) :: (D, LCg.lst ys) :: news) := .tail _ (.tail _ (.tail _ (hsub _ hcN)))
          refine Tuple_ ?_
          rw [back_cons rfl, back_cons rfl]
          refine spliced_cons (wpAny_BinOp (Call_Name rfl (LCgL.ld_built F' c.X c.T hg (by rfl) (by decide) ?_ rfl rfl hkr L3 (by decide))))
          rw [back_cons rfl]
          refine Calls.callWith_builtin rfl (evalArgs_all rfl (spliced_cons (lcf_cell N' (by simp) mW hcd (spliced_nil ?_) hkr L4 (beq_eq_false_iff_ne.mpr d45))))
          have h63 := hsz.1
          rw [sizeLine_eq] at h63
          refine SBL.len (by omega) ?_
          refine LCgL.ld_own N' mC hC hx2 ?_ hkr L2 (beq_eq_false_iff_ne.mpr d25)
          refine add_int ?_
          refine spliced_cons (LCgL.ld_own N' mC hC hx1 (spliced_nil ?_) hkr L1 (beq_eq_false_iff_ne.mpr d15))
          refine newTuple_N F' N' (fun h2' F2 N2 => ?_) (by simp [sizeLine_eq])
          have fresh : ∀ p ∈ ((I, oI) :: (C, oC) :: (D, LCg.lst ys) :: news), p.1 ≠ hh.objs.size := fun p hp => Nat.ne_of_lt (Heap.lt_size (N' p hp).1)
          have off2 : ∀ o, LCg.Off3 I C D ((hh.objs.size, o) :: news) := fun o => ⟨⟨Ne.symm (fresh (I, oI) (.head _)), Ne.symm (fresh (C, oC) (.tail _ (.head _))), Ne.symm (fresh (D, LCg.lst ys) (.tail _ (.tail _ (.head _))))⟩, off⟩
          refine LCg.CompEnd.intro F2 N2 ((hh.objs.size, ?o) :: news) ?sub (off2 _) ?S ?r
          case sub => exact sub_rot
          case S =>
            rcases hS with hS | ⟨o, hm', r⟩
            · exact .inl hS
            · exact .inr ⟨o, .tail _ hm', r⟩
          case r =>
            refine ih (i + 1) _ _ _ (dn ++ [.tup [.int ((x.length : Int) + ii), .str cc]]) out' vr ?_ h2 (by simpa using hlen) ho (fun p hp => .tail _ (hsub p hp)) (nd_cons hnd' fun p hp => fresh p (.tail _ (.tail _ (.tail _ hp)))) ?_ ((hys.mono (grow_cons _)).append (.cons (.tup (.head _) (.cons (.int _ _) (.cons (.str _ _) .nil))) .nil)) (by simpa using hl')
            · rw [← List.drop_drop, hdr]; rfl
            · rcases hS with hS | ⟨o, hm', r⟩
              · exact .inl hS
              · exact .inr ⟨o, .tail _ hm', r⟩
  refine LCp.ListComp_P (x := x1) (x₂ := x2) d.F hclos (fun z hz => ?_) hk (fun z hz hz2 => ?_) (lookup_of_get nd (i := 1) (by rw [hnm]; rfl)) (lookup_of_get nd (i := 2) (by rw [hnm]; rfl)) d12 ?_ (fun _ => rfl)
  · rw [hnm] at hz
    simp only [List.mem_cons, List.not_mem_nil, or_false] at hz
    rcases hz with rfl | rfl | rfl | rfl | rfl <;> exact fun e => by cases e
  · obtain ⟨i, hi⟩ := List.getElem?_of_mem hz
    refine lookup_of_get nd (i := i) ?_
    rw [hi]
    cases z
    cases hz2
    rfl
  · refine nameX_L d.F y2 ?_ c.hk (lookup_of_get c.nd hy) hyd
    have hlen := Prs.len hp
    cases y3 with
    | @lst _ a vs n hm ho r =>
      have rl2 := r.length
      refine LCp.SrcLP.ledger c.hh d.F d.nw hm (by simp only [List.size_toArray, sizeLine_eq]; omega) fun g => ?_
      exact main vs a g _ 0 [] N l [] l' vs rfl r (by simp) hp (fun _ h => h) d.nd (.inr ⟨_, hm, rfl, _, rfl⟩) .nil rfl
    | @lstB _ a vs hm r =>
      have rl2 := r.length
      have hb : c.h₀.IsList a vs.toArray := by obtain ⟨o, h1, h2⟩ := hm; exact ⟨o, c.B.stays _ _ h1, h2⟩
      refine LCp.SrcLP.base c.hh d.F d.nw hb (by simp only [List.size_toArray, sizeLine_eq]; omega) fun g => ?_
      exact main vs a g _ 0 [] N l [] l' vs rfl r (by simp) hp (fun _ h => h) d.nd (.inl hb) .nil rfl
end
end Mine
end
section
set_option maxRecDepth 20000
set_option genSizeOfSpec false
set_option genInjectivity false
namespace Mine

mutual
inductive IE where
  | none | bool (b : Bool) | int (i : Int) | str (s : Str) | loc (i : Nat)
  | bin (op : Operator) (l r : IE) | cmp (op : CmpOp) (l r : IE) | and (l r : IE) | or (l r : IE) | ite (t : IT) (b o : IE)
  | attr (i k : Nat) | idx (o i : IE) | slc (o l h : IE) | upto (i : Nat) (h : IE)
  | tup (as : IA) | lst (as : IA) | newL (as : IA) | newD
  | call (f : Addr) (as : IA) | meth (C f : Addr) (o : IE) (as : IA)
  | app (o e : IE) | find (o e : IE) | join (o e : IE)
  | len (e : IE) | ord (e : IE) | chr (e : IE) | abs (e : IE) | toInt (e : IE)
  | cel (i : Nat) | split (o e : IE) | isalnum (o : IE) | ladd (l r : IE) | lmul (as : IA) (n : Int) | sorted (e : IE) | prs (i j : Nat) | neg (e : IE)
inductive IT where
  | cmp (op : CmpOp) (l r : IE) | and (l r : IT) | or (l r : IT) | pl (e : IE) | nn (e : IE)
inductive IA where
  | nil | cons (e : IE) (es : IA)
end
inductive IS where
  | skip | seq (a b : IS) | set (i : Nat) (e : IE) | setA (o : IE) (k : Nat) (e : IE) | setI (o i e : IE) | many (is : List Nat) (e : IE) | exp (e : IE)
  | ret (e : IE) | brk | cont | ife (t : IT) (b o : IS) | whl (t : IT) (b : IS) | forL (i : Nat) (e : IE) (b : IS) | forS (i : Nat) (e : IE) (b : IS) | forR (i : Nat) (e : IE) (b : IS)
  | aug (i : Nat) (op : Operator) (e : IE) | augI (o i : IE) (op : Operator) (e : IE)
  | setC (i : Nat) (e : IE) | augC (i : Nat) (op : Operator) (e : IE) | ext (i : Nat) (e : IE)

noncomputable def onLoc (st : ASt) (i : Nat) (k : AV → Prop) : Prop := match st.env[i]? with
  | some (some a) => k a
  | _ => False
noncomputable def onStr (a : AV) (k : Str → Prop) : Prop := match a with
  | .str x => k x
  | _ => False
noncomputable def onLst (a : AV) (k : List AV → Prop) : Prop := match a with
  | .lst x => k x
  | _ => False
noncomputable def onInt (a : AV) (k : Int → Prop) : Prop := match a with
  | .int x => k x
  | _ => False
noncomputable def onTup (a : AV) (k : List AV → Prop) : Prop := match a with
  | .tup l => k l
  | _ => False
noncomputable def setMany : List Nat → List AV → List (Option AV) → List (Option AV)
  | i :: is, a :: l, env => setMany is l (env.set i (some a))
  | _, _, env => env
noncomputable def onInst (hp : List AO) (a : AV) (C : Addr) (k : Nat → Prop) : Prop := match a with
  | .obj i => (match hp[i]? with
    | some (.inst C' _) => C' = C ∧ k i
    | _ => False)
  | _ => False
noncomputable def onList (hp : List AO) (a : AV) (k : Prop) : Prop := match a with
  | .obj i => (match hp[i]? with
    | some (.list _) => k
    | _ => False)
  | _ => False
noncomputable def GetIdx (hp : List AO) (a i : AV) (k : AV → Prop) : Prop := match i with
  | .int x => (match seqOf hp a with
    | some l => (0 ≤ x ∧ l.length ≤ sizeLine) ∧ ∃ v, l[x.toNat]? = some v ∧ k v
    | none => False)
  | _ => False
noncomputable def SetItem (hp : List AO) (a i v : AV) (P : List AO → Prop) : Prop := match a with
  | .obj j => (match hp[j]? with
    | some (.list _) => SetIdx hp a i v P
    | some (.dict _) => SetKey hp a i v P
    | _ => False)
  | _ => False
noncomputable def onCel (st : ASt) (i : Nat) (k : AV → Prop) : Prop := match st.heap[i]? with
  | some (.cell (some a)) => k a
  | _ => False
noncomputable def isCel (st : ASt) (i : Nat) (k : Prop) : Prop := match st.heap[i]? with
  | some (.cell _) => k
  | _ => False
noncomputable def onPrs (x : Str) (l : List AV) (k : List AV → Prop) : Prop := match Prs x.length l with
  | some l' => (x.length ≤ sizeLine ∧ l.length ≤ 1000) ∧ k l'
  | none => False
noncomputable def onNN (a : AV) (k : Bool → Prop) : Prop := match a with
  | .none => k false
  | .str _ => k true
  | _ => False
noncomputable def small (l : List AV) (k : Prop) : Prop := l.length ≤ sizeLine ∧ k

section
variable (G : Gl) (n : Nat)
mutual
noncomputable def vE : IE → ASt → (AV → ASt → Prop) → Prop
  | .none, st, P => P .none st
  | .bool b, st, P => P (.bool b) st
  | .int i, st, P => P (.int i) st
  | .str s, st, P => P (.str s) st
  | .loc i, st, P => onLoc st i fun a => P a st
  | .bin op l r, st, P => vE l st fun a st1 => vE r st1 fun b st2 => Bin op a b fun x => P x st2
  | .cmp op l r, st, P => vE l st fun a st1 => vE r st1 fun b st2 => Cmp st2.heap op a b fun x => P (.bool x) st2
  | .and l r, st, P => vE l st fun a st1 => onB a fun b => fork b (vE r st1 P) (P (.bool false) st1)
  | .or l r, st, P => vE l st fun a st1 => onB a fun b => fork b (P (.bool true) st1) (vE r st1 P)
  | .ite t b o, st, P => vT t st fun x st1 => fork x (vE b st1 P) (vE o st1 P)
  | .attr i k, st, P => onLoc st i fun a => Attr st.heap a k fun v => P v st
  | .idx o i, st, P => vE o st fun a st1 => vE i st1 fun j st2 => Idx st2.heap a j fun v => P v st2
  | .slc o l h, st, P => vE o st fun a st1 => vE l st1 fun i st2 => vE h st2 fun j st3 => Slc a i j fun v => P v st3
  | .upto i h, st, P => onLoc st i fun a => vE h st fun j st1 => Upto st1.heap a j fun v => P v st1
  | .tup as, st, P => vA as st fun l st1 => small l (P (.tup l) st1)
  | .lst as, st, P => vA as st fun l st1 => small l (P (.lst l) st1)
  | .newL as, st, P => vA as st fun l st1 => small l (P (.obj st1.heap.length) { st1 with heap := st1.heap ++ [.list l] })
  | .newD, st, P => P (.obj st.heap.length) { st with heap := st.heap ++ [.dict []] }
  | .call f as, st, P => vA as st fun l st1 => TF G n f l st1.heap fun r hp => P r { st1 with heap := hp }
  | .meth C f o as, st, P => vE o st fun a st1 => onInst st1.heap a C fun i => vA as st1 fun l st2 => TF G n f (.obj i :: l) st2.heap fun r hp => P r { st2 with heap := hp }
  | .app o e, st, P => vE o st fun a st1 => onList st1.heap a (vE e st1 fun b st2 => App st2.heap a b fun hp => P .none { st2 with heap := hp })
  | .find o e, st, P => vE o st fun a st1 => onStr a fun x => vE e st1 fun b st2 => Find x b fun v => P v st2
  | .join o e, st, P => vE o st fun a st1 => onStr a fun x => vE e st1 fun b st2 => Join x st2.heap b fun v => P v st2
  | .len e, st, P => vE e st fun a st1 => Len st1.heap a fun v => P v st1
  | .ord e, st, P => vE e st fun a st1 => Ord a fun v => P v st1
  | .chr e, st, P => vE e st fun a st1 => Chr a fun v => P v st1
  | .abs e, st, P => vE e st fun a st1 => Abs a fun v => P v st1
  | .toInt e, st, P => vE e st fun a st1 => ToInt a fun v => P v st1
  | .cel i, st, P => onCel st i fun a => P a st
  | .split o e, st, P => vE o st fun a st1 => onStr a fun x => vE e st1 fun b st2 => Split x b fun v => P v st2
  | .isalnum o, st, P => vE o st fun a st1 => onStr a fun x => P (.bool (Txt.isalnum x)) st1
  | .ladd l r, st, P => vE l st fun a st1 => vE r st1 fun b st2 => LAdd st2.heap a b fun x => P x st2
  | .lmul as n, st, P => (0 ≤ n ∧ n ≤ 1000) ∧ vA as st fun l st1 => (l.length ≤ 1000 ∧ l ≠ []) ∧ P (.lst (List.replicate n.toNat l).flatten) st1
  | .neg e, st, P => vE e st fun a st1 => Neg a fun v => P v st1
  | .sorted e, st, P => vE e st fun a st1 => Sorted st1.heap a fun v => P v st1
  | .prs i j, st, P => onLoc st j fun a => onLst a fun l => onCel st i fun w => onStr w fun x => onPrs x l fun l' => P (.lst l') st
noncomputable def vT : IT → ASt → (Bool → ASt → Prop) → Prop
  | .cmp op l r, st, P => vE l st fun a st1 => vE r st1 fun b st2 => Cmp st2.heap op a b fun x => P x st2
  | .and l r, st, P => vT l st fun b st1 => fork b (vT r st1 P) (P false st1)
  | .or l r, st, P => vT l st fun b st1 => fork b (P true st1) (vT r st1 P)
  | .pl e, st, P => vE e st fun a st1 => onB a fun b => P b st1
  | .nn e, st, P => vE e st fun a st1 => onNN a fun b => P b st1
noncomputable def vA : IA → ASt → (List AV → ASt → Prop) → Prop
  | .nil, st, P => P [] st
  | .cons e es, st, P => vE e st fun a st1 => vA es st1 fun l st2 => P (a :: l) st2
end
noncomputable def turnEnd (P : AFl → ASt → Prop) (inv : ASt → Prop) (fl : AFl) (st : ASt) : Prop := match fl with
  | .brk => P .next st
  | .ret a => P (.ret a) st
  | _ => inv st
noncomputable def goOn (k : ASt → Prop) (P : AFl → ASt → Prop) (fl : AFl) (st : ASt) : Prop := match fl with
  | .next => k st
  | fl => P fl st
noncomputable def vLoop (items : List AV) (i : Nat) (b : ASt → (AFl → ASt → Prop) → Prop) (st : ASt) (P : AFl → ASt → Prop) : Prop :=
  ∃ inv : Nat → ASt → Prop, inv 0 st ∧ (∀ (k : Nat) (a : AV), items[k]? = some a → ∀ st1, inv k st1 → b { st1 with env := st1.env.set i (some a) } (turnEnd P (inv (k + 1)))) ∧ ∀ st1, inv items.length st1 → P .next st1
noncomputable def vWhl (t : ASt → (Bool → ASt → Prop) → Prop) (b : ASt → (AFl → ASt → Prop) → Prop) (st : ASt) (P : AFl → ASt → Prop) : Prop :=
  ∃ (inv : ASt → Prop) (μ : ASt → Nat), inv st ∧ ∀ st1, inv st1 → t st1 fun x st2 => fork x (b st2 (turnEnd P fun st3 => inv st3 ∧ μ st3 < μ st1)) (P .next st2)
noncomputable def vS : IS → ASt → (AFl → ASt → Prop) → Prop
  | .skip, st, P => P .next st
  | .seq a b, st, P => vS a st (goOn (fun st1 => vS b st1 P) P)
  | .set i e, st, P => vE G n e st fun a st1 => P .next { st1 with env := st1.env.set i (some a) }
  | .setA o k e, st, P => vE G n e st fun b st1 => vE G n o st1 fun a st2 => SetAttr G st2.heap a k b fun hp => P .next { st2 with heap := hp }
  | .setI o i e, st, P => vE G n e st fun v st1 => vE G n o st1 fun a st2 => vE G n i st2 fun b st3 => SetItem st3.heap a b v fun hp => P .next { st3 with heap := hp }
  | .many is e, st, P => vE G n e st fun a st1 => onTup a fun l => l.length = is.length ∧ P .next { st1 with env := setMany is l st1.env }
  | .exp e, st, P => vE G n e st fun _ st1 => P .next st1
  | .ret e, st, P => vE G n e st fun a st1 => P (.ret a) st1
  | .brk, st, P => P .brk st
  | .cont, st, P => P .cont st
  | .ife t b o, st, P => vT G n t st fun x st1 => fork x (vS b st1 P) (vS o st1 P)
  | .whl t b, st, P => vWhl (vT G n t) (vS b) st P
  | .forL i e b, st, P => vE G n e st fun a st1 => onLst a fun l => vLoop l i (vS b) st1 P
  | .forS i e b, st, P => vE G n e st fun a st1 => onStr a fun y => vLoop (y.cps.toList.map fun m => AV.str ⟨#[m]⟩) i (vS b) st1 P
  | .forR i e b, st, P => vE G n e st fun a st1 => onInt a fun m => (-(2 ^ 40) ≤ m ∧ m ≤ 2 ^ 40) ∧ vLoop (upItems m) i (vS b) st1 P
  | .aug i op e, st, P => onLoc st i fun a => vE G n e st fun b st1 => Aug op a b fun v => P .next { st1 with env := st1.env.set i (some v) }
  | .augI o i op e, st, P => vE G n o st fun a st1 => vE G n i st1 fun b st2 => GetIdx st2.heap a b fun w => vE G n e st2 fun d st3 => Aug op w d fun v => SetIdx st3.heap a b v fun hp => P .next { st3 with heap := hp }
  | .setC i e, st, P => vE G n e st fun a st1 => isCel st1 i (P .next { st1 with heap := st1.heap.set i (.cell (some a)) })
  | .augC i op e, st, P => onCel st i fun a => vE G n e st fun b st1 => Aug op a b fun v => isCel st1 i (P .next { st1 with heap := st1.heap.set i (.cell (some v)) })
  | .ext i e, st, P => onLoc st i fun a => vE G n e st fun b st1 => Ext st1.heap a b fun hp => P .next { st1 with heap := hp, env := st1.env.set i (some a) }
end
end Mine
end
section
set_option maxRecDepth 20000
namespace Mine
set_option genInjectivity false in
structure Tab where
  gt : List (Str × Addr)
  gi : List (Str × Int)
  gb : List Str
  mt : List (Str × Addr × Addr)
  cel : List (Str × Nat)
set_option genInjectivity false in
structure TabOk (G : Gl) (t : Tab) : Prop where
  gt : ∀ p ∈ t.gt, nsIn G.K mainGlobals p.1 = some (some (.ref p.2)) ∧ keepIn G.K (.ref p.2) = true
  gi : ∀ p ∈ t.gi, ∃ tk, nsIn G.K mainGlobals p.1 = some (some (.int p.2 tk))
  gb : ∀ x ∈ t.gb, nsIn G.K mainGlobals x = some none
  mt : ∀ q ∈ t.mt, q ∈ G.mt
set_option genInjectivity false in
structure TabC {G : Gl} (c : Cx G) (t : Tab) : Prop extends TabOk G t where
  cel : ∀ x i, c.sc.names.lookup x = some .cell → (x, i) ∈ t.cel → (x, i) ∈ c.ci

noncomputable def findLoc (x : Str) : List (Str × NameKind) → Nat → Option Nat
  | [], _ => none
  | (y, k) :: r, i => if y = x then (if k = .local then some i else none) else findLoc x r (i + 1)
theorem findLoc_ok {x : Str} {i : Nat} : ∀ {l : List (Str × NameKind)} {j : Nat}, findLoc x l j = some i → ∃ k, i = j + k ∧ l[k]? = some (x, .local)
  | [], j, h => by cases h
  | (y, k) :: r, j, h => by
    unfold findLoc at h
    split at h
    · rename_i e
      split at h
      · rename_i e'
        cases h
        exact ⟨0, rfl, by rw [e, e']; rfl⟩
      · cases h
    · obtain ⟨k, h1, h2⟩ := findLoc_ok h
      exact ⟨k + 1, by omega, h2⟩
noncomputable def atIdxG (x : Str) : List Str → Nat → Option Nat
  | [], _ => none
  | y :: r, i => if y = x then some i else atIdxG x r (i + 1)
theorem atIdxG_ok {x : Str} {i : Nat} : ∀ {l : List Str} {j : Nat}, atIdxG x l j = some i → ∃ k, i = j + k ∧ l[k]? = some x
  | [], j, h => by cases h
  | y :: r, j, h => by
    unfold atIdxG at h
    split at h
    · rename_i e
      cases h
      exact ⟨0, rfl, by rw [e]; rfl⟩
    · obtain ⟨k, h1, h2⟩ := atIdxG_ok h
      exact ⟨k + 1, by omega, h2⟩
noncomputable def atIdx (x : Str) : Option Nat := atIdxG x atNames 0
theorem atIdx_ok {x : Str} {k : Nat} (h : atIdx x = some k) : x = atName k ∧ k < 8 := by
  obtain ⟨j, h1, h2⟩ := atIdxG_ok h
  have hj : k = j := by omega
  subst hj
  have hlt := (List.getElem?_eq_some_iff.mp h2).1
  refine ⟨?_, hlt⟩
  unfold atName
  rw [List.getD_eq_getElem?_getD, h2]
  rfl
noncomputable def lk {β : Type} (x : Str) : List (Str × β) → Option β
  | [] => none
  | (y, b) :: r => if y = x then some b else lk x r
theorem lk_mem {β : Type} {x : Str} {b : β} : ∀ {l : List (Str × β)}, lk x l = some b → (x, b) ∈ l
  | [], h => by cases h
  | (y, c) :: r, h => by
    unfold lk at h
    split at h
    · rename_i e; cases h; rw [e]; exact .head _
    · exact .tail _ (lk_mem h)
noncomputable def isGlob (names : List (Str × NameKind)) (x : Str) : Bool := decide (lk x names = some .globalImplicit) && decide (x ≠ "__debug__")
theorem lk_lookup {β : Type} {x : Str} : ∀ {l : List (Str × β)}, l.lookup x = lk x l
  | [] => rfl
  | (y, b) :: r => by
    unfold lk
    rw [List.lookup_cons]
    by_cases e : y = x
    · subst e; simp
    · rw [if_neg e, beq_eq_false_iff_ne.mpr (Ne.symm e)]; exact lk_lookup
theorem isGlob_ok {names : List (Str × NameKind)} {x : Str} (h : isGlob names x = true) : names.lookup x = some .globalImplicit ∧ (x == ("__debug__" : Str)) = false := by
  unfold isGlob at h
  rw [Bool.and_eq_true] at h
  exact ⟨by rw [lk_lookup]; exact of_decide_eq_true h.1, beq_eq_false_iff_ne.mpr (of_decide_eq_true h.2)⟩
noncomputable def isCell (names : List (Str × NameKind)) (x : Str) : Bool := decide (lk x names = some .cell) && decide (x ≠ "__debug__")
theorem isCell_ok {names : List (Str × NameKind)} {x : Str} (h : isCell names x = true) : names.lookup x = some .cell ∧ (x == ("__debug__" : Str)) = false := by
  unfold isCell at h
  rw [Bool.and_eq_true] at h
  exact ⟨by rw [lk_lookup]; exact of_decide_eq_true h.1, beq_eq_false_iff_ne.mpr (of_decide_eq_true h.2)⟩
noncomputable def nameOf : PySem.Expr → Option Str
  | .Name x _ => some x
  | _ => none
theorem nameOf_ok {e : PySem.Expr} {x : Str} (h : nameOf e = some x) : ∃ p, e = .Name x p := by
  unfold nameOf at h
  split at h
  · cases h; exact ⟨_, rfl⟩
  · cases h
noncomputable def lenOf : PySem.Expr → Option Str
  | .Call f [a] [] _ => if nameOf f = some "len" then nameOf a else none
  | _ => none
theorem lenOf_ok {e : PySem.Expr} {x : Str} (h : lenOf e = some x) : ∃ p1 p2 p3, e = .Call (.Name (PySem.Str.ofString "len") p1) [.Name x p2] [] p3 := by
  unfold lenOf at h
  split at h
  · split at h
    · rename_i hf
      obtain ⟨p1, rfl⟩ := nameOf_ok hf
      obtain ⟨p2, rfl⟩ := nameOf_ok h
      exact ⟨_, _, _, rfl⟩
    · cases h
  · cases h
noncomputable def both {α β : Type} (a : Option α) (b : Option β) : Option (α × β) := a.bind fun x => b.map fun y => (x, y)
theorem both_ok {α β : Type} {a : Option α} {b : Option β} {z : α × β} (h : both a b = some z) : a = some z.1 ∧ b = some z.2 := by
  cases a with
  | none => cases h
  | some x => cases b with
    | none => cases h
    | some y => cases h; exact ⟨rfl, rfl⟩
noncomputable def plusOf : PySem.Expr → Option (Str × Str)
  | .BinOp l .Add r _ => both (lenOf l) (nameOf r)
  | _ => none
theorem plusOf_ok {e : PySem.Expr} {u : Str × Str} (h : plusOf e = some u) : ∃ p1 p2 p3 p4 p5, e = .BinOp (.Call (.Name (PySem.Str.ofString "len") p1) [.Name u.1 p2] [] p3) .Add (.Name u.2 p4) p5 := by
  unfold plusOf at h
  split at h
  · obtain ⟨h7, h8⟩ := both_ok h
    obtain ⟨p1, p2, p3, e1⟩ := lenOf_ok h7
    obtain ⟨p4, e2⟩ := nameOf_ok h8
    exact ⟨p1, p2, p3, p4, _, by rw [e1, e2]⟩
  · cases h
noncomputable def twoOf : PySem.Expr → Option (PySem.Expr × PySem.Expr)
  | .Tuple [x, y] _ _ => some (x, y)
  | _ => none
theorem twoOf_ok {e x y : PySem.Expr} (h : twoOf e = some (x, y)) : ∃ n p, e = .Tuple [x, y] n p := by
  unfold twoOf at h
  split at h
  · cases h; exact ⟨_, _, rfl⟩
  · cases h
noncomputable def pairElt (e : PySem.Expr) : Option (Str × Str × Str) := (twoOf e).bind fun z => (both (plusOf z.1) (nameOf z.2)).map fun u => (u.1.1, u.1.2, u.2)
theorem pairElt_ok {e : PySem.Expr} {w b a : Str} (h : pairElt e = some (w, b, a)) : ∃ p1 p2 p3 p4 p5 p6 n p7, e = .Tuple [.BinOp (.Call (.Name (PySem.Str.ofString "len") p1) [.Name w p2] [] p3) .Add (.Name b p4) p5, .Name a p6] n p7 := by
  obtain ⟨z, h1, h2⟩ := Option.bind_eq_some_iff.mp h
  obtain ⟨u, h3, h4⟩ := Option.map_eq_some_iff.mp h2
  cases h4
  obtain ⟨h5, h6⟩ := both_ok h3
  obtain ⟨n, p7, e1⟩ := twoOf_ok (show twoOf e = some (z.1, z.2) from h1)
  obtain ⟨p6, e2⟩ := nameOf_ok h6
  obtain ⟨p1, p2, p3, p4, p5, e3⟩ := plusOf_ok h5
  exact ⟨p1, p2, p3, p4, p5, p6, n, p7, by rw [e1, e2, e3]⟩
noncomputable def compOf : List Comprehension → Option (PySem.Expr × PySem.Expr)
  | [⟨t, i, [], 0⟩] => some (t, i)
  | _ => none
theorem compOf_ok {e : List Comprehension} {z : PySem.Expr × PySem.Expr} (h : compOf e = some z) : e = [⟨z.1, z.2, [], 0⟩] := by
  unfold compOf at h
  split at h
  · cases h; rfl
  · cases h
noncomputable def pairGen (e : List Comprehension) : Option (Str × Str × Str) := (compOf e).bind fun z => (twoOf z.1).bind fun u => (both (both (nameOf u.1) (nameOf u.2)) (nameOf z.2)).map fun v => (v.1.1, v.1.2, v.2)
theorem pairGen_ok {e : List Comprehension} {a b y : Str} (h : pairGen e = some (a, b, y)) : ∃ q1 q2 n q3 q4, e = [⟨.Tuple [.Name a q1, .Name b q2] n q3, .Name y q4, [], 0⟩] := by
  obtain ⟨z, h1, h2⟩ := Option.bind_eq_some_iff.mp h
  obtain ⟨u, h3, h4⟩ := Option.bind_eq_some_iff.mp h2
  obtain ⟨v, h5, h6⟩ := Option.map_eq_some_iff.mp h4
  cases h6
  obtain ⟨h7, h8⟩ := both_ok h5
  obtain ⟨h9, h10⟩ := both_ok h7
  obtain ⟨n, q3, e1⟩ := twoOf_ok (show twoOf z.1 = some (u.1, u.2) from h3)
  obtain ⟨q1, e2⟩ := nameOf_ok h9
  obtain ⟨q2, e3⟩ := nameOf_ok h10
  obtain ⟨q4, e4⟩ := nameOf_ok h8
  have e5 := compOf_ok h1
  exact ⟨q1, q2, n, q3, q4, by rw [e5, e1, e2, e3, e4]⟩
noncomputable def isNN : List CmpOp → List PySem.Expr → Bool
  | [.IsNot], [.Constant .none _ _] => true
  | _, _ => false
theorem isNN_ok {ops : List CmpOp} {rs : List PySem.Expr} (h : isNN ops rs = true) : ∃ k p, ops = [.IsNot] ∧ rs = [.Constant .none k p] := by
  unfold isNN at h
  split at h
  · exact ⟨_, _, rfl, rfl⟩
  · cases h
noncomputable def asRep (l : PySem.Expr) (op : Operator) (r : PySem.Expr) : Option (List PySem.Expr × Int) := match l, op, r with
  | .List es _, .Mult, .Constant (.int i) _ _ => some (es, i)
  | _, _, _ => none
theorem asRep_ok {l r : PySem.Expr} {op : Operator} {es : List PySem.Expr} {i : Int} (h : asRep l op r = some (es, i)) : ∃ p1 k p2, l = .List es p1 ∧ op = .Mult ∧ r = .Constant (.int i) k p2 := by
  unfold asRep at h
  split at h
  · cases h; exact ⟨_, _, _, rfl, rfl, rfl⟩
  · cases h
noncomputable def isRep : PySem.Expr → Bool
  | .BinOp l op r _ => (asRep l op r).isSome
  | _ => false
noncomputable def isLC : PySem.Expr → Bool
  | .ListComp .. => true
  | _ => false
noncomputable def noComp : PySem.Expr → Bool
  | .ListComp .. | .SetComp .. | .DictComp .. => false
  | _ => true
theorem swaps_plain {e : PySem.Expr} {t : Option PySem.Expr} {l : Nat} {env : Env} (h : noComp e = true) : swapsWith e t l env = pure false := by
  cases e <;> first | rfl | simp [noComp] at h

section
variable (t : Tab) (names : List (Str × NameKind))
noncomputable def cName (x : Str) : Option IE := match findLoc x names 0 with
  | some i => if x = "__debug__" then none else some (.loc i)
  | none => if isCell names x then (lk x t.cel).map IE.cel else if isGlob names x then (lk x t.gi).map IE.int else none
noncomputable def cArgs (cE : PySem.Expr → Option IE) : List PySem.Expr → Option IA
  | [] => some .nil
  | e :: es => if plainE e then (match cE e, cArgs cE es with
    | some E, some R => some (.cons E R)
    | _, _ => none) else none
noncomputable def cOne (x : Str) : Option (IE → IE) :=
  if x = "len" then some .len else if x = "ord" then some .ord else if x = "chr" then some .chr else if x = "abs" then some .abs else if x = "int" then some .toInt else if x = "sorted" then some .sorted else none
noncomputable def cMet (x : Str) : Option (IE → IE → IE) :=
  if x = "append" then some .app else if x = "find" then some .find else if x = "join" then some .join else if x = "split" then some .split else none
noncomputable def cCall (cE : PySem.Expr → Option IE) (x : Str) (args : List PySem.Expr) : Option IE :=
  if isGlob names x then (match lk x t.gt with
    | some f => (cArgs cE args).map (IE.call f)
    | none => if x ∈ t.gb then (match cOne x, args with
      | some k, [e] => if plainE e then (cE e).map k else none
      | _, _ => none) else none) else none
noncomputable def cMeth (cE : PySem.Expr → Option IE) (o : PySem.Expr) (name : Str) (args : List PySem.Expr) : Option IE :=
  match lk name t.mt with
  | some (C, f) => (match cE o, cArgs cE args with
    | some O, some A => some (.meth C f O A)
    | _, _ => none)
  | none => (match cMet name, args with
    | some k, [e] => if plainE e then (match cE o, cE e with
      | some O, some E => some (k O E)
      | _, _ => none) else none
    | none, [] => if name = "isalnum" then (cE o).map IE.isalnum else none
    | _, _ => none)
noncomputable def bin2 {α β γ : Type} (f : α → β → γ) (a : Option α) (b : Option β) : Option γ := match a, b with
  | some A, some B => some (f A B)
  | _, _ => none
noncomputable def bin3 {α β γ δ : Type} (f : α → β → γ → δ) (a : Option α) (b : Option β) (d : Option γ) : Option δ := match d with
  | some D => bin2 (fun x y => f x y D) a b
  | none => none
noncomputable def isTup : PySem.Expr → Bool
  | .Tuple .. => true
  | _ => false
noncomputable def isCmpLike : PySem.Expr → Bool
  | .Call .. | .Constant .. | .Name .. | .Attribute .. | .Subscript .. => true
  | _ => false
noncomputable def cConst : Const → Option IE
  | .int i => some (.int i)
  | .str s => some (.str s)
  | .bool b => some (.bool b)
  | .none => some .none
  | _ => none
noncomputable def cBin (tu la : Bool) (op : Operator) (l r : Option IE) : Option IE := if tu && decide (op = .Add) then none else if la && decide (op = .Add) then bin2 IE.ladd l r else bin2 (IE.bin op) l r
noncomputable def cCmp {α : Type} (k : CmpOp → IE → IE → α) (cE : PySem.Expr → Option IE) (l : PySem.Expr) (ops : List CmpOp) (rs : List PySem.Expr) : Option α := match ops with
  | [op] => (match rs with
    | [r] => if behindInMarks op r then none else bin2 (k op) (cE l) (cE r)
    | _ => none)
  | _ => none
noncomputable def cBool {α : Type} (ka ko : α → α → α) (f : PySem.Expr → Option α) (op : BoolOp) (es : List PySem.Expr) (p : Pos) : Option α := match es with
  | [] => none
  | x :: es => (match es with
    | [] => f x
    | y :: rest => (match op with
      | .And => bin2 ka (f x) (f (.BoolOp .And (y :: rest) p))
      | .Or => bin2 ko (f x) (f (.BoolOp .Or (y :: rest) p))))
noncomputable def cAttr (o : PySem.Expr) (a : Str) : Option IE := match o with
  | .Name x _ => (match cName t names x with
    | some (.loc i) => (atIdx a).map (IE.attr i)
    | _ => none)
  | _ => none
noncomputable def cSlice (cE : PySem.Expr → Option IE) (v : PySem.Expr) (lo hi st : Option PySem.Expr) : Option IE := match st with
  | none => (match hi with
    | none => none
    | some hi => (match lo with
      | some lo => bin3 IE.slc (cE v) (cE lo) (cE hi)
      | none => (match v with
        | .Name x _ => (match cName t names x with
          | some (.loc i) => (cE hi).map (IE.upto i)
          | _ => none)
        | _ => none)))
  | some _ => none
noncomputable def cIdx (cE : PySem.Expr → Option IE) (v i : PySem.Expr) : Option IE := if plainE i then bin2 IE.idx (cE v) (cE i) else none
noncomputable def cSub (cE : PySem.Expr → Option IE) (v i : PySem.Expr) : Option IE := match i with
  | .Slice lo hi st _ => cSlice t names cE v lo hi st
  | i => cIdx cE v i
noncomputable def cAny (cE : PySem.Expr → Option IE) (f : PySem.Expr) (args : List PySem.Expr) (kws : List Keyword) (pos : Pos) : Option IE := match kws with
  | [] => (match f with
    | .Name x _ => cCall t names cE x args
    | .Attribute o name apos => if notCall o && decide (args.length < 30) && (apos.endLine == pos.line) then cMeth t cE o name args else none
    | _ => none)
  | _ => none
noncomputable def cComp (elt : PySem.Expr) (gens : List Comprehension) (sc : Scope) : Option IE := match pairElt elt, pairGen gens with
  | some (w, b, a), some (x1, x2, y) => if (a = x1 ∧ b = x2) ∧ prScope x1 x2 w sc = true ∧ (PySem.Str.ofString "len") ∈ t.gb ∧ y ≠ "__debug__" ∧ isCell names w = true then bin2 IE.prs (lk w t.cel) (findLoc y names 0) else none
  | _, _ => none
mutual
noncomputable def cE : Nat → PySem.Expr → Option IE
  | 0, _ => none
  | n + 1, e => match e with
    | .Constant v _ _ => cConst v
    | .Name x _ => cName t names x
    | .BinOp l op r _ => (match asRep l op r with
      | some (es, i) => (cArgs (cE n) es).map fun A => IE.lmul A i
      | none => cBin (isTup r) (isRep r) op (cE n l) (cE n r))
    | .ListComp elt gens sc _ => cComp t names elt gens sc
    | .UnaryOp op e _ => if op = .USub then (cE n e).map IE.neg else none
    | .Compare l ops rs _ => cCmp IE.cmp (cE n) l ops rs
    | .BoolOp op es p => cBool IE.and IE.or (cE n) op es p
    | .IfExp u b o _ => bin3 IE.ite (cT n u) (cE n b) (cE n o)
    | .Attribute o a _ => cAttr t names o a
    | .Subscript v i _ => cSub t names (cE n) v i
    | .Tuple es _ _ => (cArgs (cE n) es).map IE.tup
    | .List es _ => (cArgs (cE n) es).map IE.lst
    | .Dict ks vs _ => (match ks with
      | [] => (match vs with
        | [] => some .newD
        | _ => none)
      | _ => none)
    | .Call f args kws pos => cAny t names (cE n) f args kws pos
    | _ => none
noncomputable def cT : Nat → PySem.Expr → Option IT
  | 0, _ => none
  | n + 1, e => match e with
    | .Compare l ops rs _ => if isNN ops rs then (cE n l).map IT.nn else cCmp IT.cmp (cE n) l ops rs
    | .BoolOp op es p => cBool IT.and IT.or (cT n) op es p
    | e => if isCmpLike e then (cE n e).map IT.pl else none
end
noncomputable def cR (n : Nat) (e : PySem.Expr) : Option IE := match e with
  | .List es _ => (cArgs (cE t names n) es).map IE.newL
  | e => cE t names n e
noncomputable def cNames : List PySem.Expr → Option (List Nat)
  | [] => some []
  | e :: es => (match e with
    | .Name x _ => bin2 List.cons (findLoc x names 0) (cNames es)
    | _ => none)
noncomputable def cTo (n : Nat) (x e : PySem.Expr) : Option IS := match x with
  | .Name x _ => if isCell names x then bin2 IS.setC (lk x t.cel) (cE t names n e) else bin2 IS.set (findLoc x names 0) (cR t names n e)
  | .Attribute o a _ => bin3 IS.setA (cE t names n o) (atIdx a) (cR t names n e)
  | .Subscript o i _ => bin3 IS.setI (cE t names n o) (cE t names n i) (cE t names n e)
  | .Tuple es _ _ => if isTup e then none else bin2 IS.many (cNames names es) (cE t names n e)
  | _ => none
noncomputable def cAug (n : Nat) (x : PySem.Expr) (op : Operator) (e : PySem.Expr) : Option IS := match x with
  | .Name x _ => if isCell names x then bin2 (fun i E => IS.augC i op E) (lk x t.cel) (cE t names n e) else if isLC e && decide (op = .Add) then bin2 IS.ext (findLoc x names 0) (cE t names n e) else bin2 (fun i E => IS.aug i op E) (findLoc x names 0) (cE t names n e)
  | .Subscript o i _ => if plainE i then bin3 (fun O I E => IS.augI O I op E) (cE t names n o) (cE t names n i) (cE t names n e) else none
  | _ => none
noncomputable def rangeOf (e : PySem.Expr) : Option PySem.Expr := match e with
  | .Call f args kws _ => (match f with
    | .Name x _ => if x = "range" ∧ isGlob names x = true ∧ x ∈ t.gb then (match args with
      | [e] => (match kws with
        | [] => some e
        | _ => none)
      | _ => none) else none
    | _ => none)
  | _ => none
noncomputable def isName : PySem.Expr → Bool
  | .Name .. => true
  | _ => false
noncomputable def cFor (cE : PySem.Expr → Option IE) (x it : PySem.Expr) (b : Option IS) (o : List Stmt) : Option IS := match o with
  | [] => (match x with
    | .Name x _ => (match rangeOf t names it with
      | some e => if plainE e then bin3 IS.forR (findLoc x names 0) (cE e) b else none
      | none => if notSet it then (if isName it then bin3 IS.forS (findLoc x names 0) (cE it) b else bin3 IS.forL (findLoc x names 0) (cE it) b) else none)
    | _ => none)
  | _ => none
mutual
noncomputable def cS : Nat → Stmt → Option IS
  | 0, _ => none
  | n + 1, s => match s with
    | .Return v _ => (match v with
      | none => some (.ret .none)
      | some e => (cR t names n e).map IS.ret)
    | .Break _ => some .brk
    | .Continue _ => some .cont
    | .Pass _ => some .skip
    | .Expr e _ => if noComp e then (cE t names n e).map IS.exp else none
    | .If u b o _ => bin3 IS.ife (cT t names n u) (cB n b) (cB n o)
    | .While u b o _ => (match o with
      | [] => bin2 IS.whl (cT t names n u) (cB n b)
      | _ => none)
    | .For x it b o _ => cFor t names (cE t names n) x it (cB n b) o
    | .Assign ts e _ => (match ts with
      | [x] => if noComp e then cTo t names n x e else none
      | _ => none)
    | .AugAssign x op e _ => cAug t names n x op e
    | _ => none
noncomputable def cB : Nat → List Stmt → Option IS
  | 0, _ => none
  | n + 1, b => match b with
    | [] => some .skip
    | s :: r => bin2 IS.seq (cS n s) (cB n r)
end
end
end Mine
end
section
set_option maxRecDepth 20000
namespace Mine
section
variable {G : Gl} {c : Cx G} {t : Tab} {n : Nat}
theorem TE.mono {e : PySem.Expr} {st : ASt} {P P' : AV → ASt → Prop} (h : TE c e st P) (k : ∀ a st, P a st → P' a st) : TE c e st P' :=
  fun fm s hr Q q => h fm s hr Q fun a v st' s' p r => q a v st' s' (k _ _ p) r
theorem TT.mono {e : PySem.Expr} {st : ASt} {P P' : Bool → ASt → Prop} (h : TT c e st P) (k : ∀ a st, P a st → P' a st) : TT c e st P' :=
  fun fm s hr Q q => h fm s hr Q fun b st' s' p r => q b st' s' (k _ _ p) r
theorem Does.mono {t : Sem Flow} {st : ASt} {P P' : AFl → ASt → Prop} (h : Does c t st P) (k : ∀ a st, P a st → P' a st) : Does c t st P' :=
  fun fm s hr Q q => h fm s hr Q fun fl f st' s' p r => q fl f st' s' (k _ _ p) r
theorem onB_mono {a : AV} {k k' : Bool → Prop} (h : onB a k) (m : ∀ b, k b → k' b) : onB a k' := by
  unfold onB at h ⊢
  split at h
  · exact m _ h
  · exact h.elim
theorem fork_mono {b : Bool} {k1 k2 k1' k2' : Prop} (h : fork b k1 k2) (m1 : k1 → k1') (m2 : k2 → k2') : fork b k1' k2' := ⟨fun e => m1 (h.1 e), fun e => m2 (h.2 e)⟩
theorem cName_ok (hG : TabC c t) {x : Str} {p : Pos} {E : IE} (h : cName t c.sc.names x = some E) {st : ASt} {P : AV → ASt → Prop} (hv : vE G n E st P) : TE c (.Name x p) st P := by
  unfold cName at h
  split at h
  · rename_i i hi
    split at h
    · cases h
    · rename_i hx
      cases h
      obtain ⟨k, e, hk⟩ := findLoc_ok hi
      have e : i = k := by omega
      subst e
      simp only [vE, onLoc] at hv
      split at hv
      · rename_i a ha
        exact TE.loc hk (beq_eq_false_iff_ne.mpr hx) ha hv
      · exact hv.elim
  · split at h
    · rename_i hc
      obtain ⟨i, hi, rfl⟩ := Option.map_eq_some_iff.mp h
      obtain ⟨g1, g2⟩ := isCell_ok hc
      simp only [vE, onCel] at hv
      split at hv
      · rename_i a ha
        exact TE.cel g1 (hG.cel _ _ g1 (lk_mem hi)) g2 ha hv
      · exact hv.elim
    · split at h
      · rename_i hg
        obtain ⟨v, hv', rfl⟩ := Option.map_eq_some_iff.mp h
        obtain ⟨tk, h1⟩ := hG.gi _ (lk_mem hv')
        obtain ⟨g1, g2⟩ := isGlob_ok hg
        exact TE.globInt g1 g2 h1 (by simpa only [vE] using hv)
      · cases h
theorem cArgs_ok {f : PySem.Expr → Option IE} (ih : ∀ e E, f e = some E → ∀ st P, vE G n E st P → TE c e st P) {pos : Pos} : ∀ {es : List PySem.Expr} {A : IA}, cArgs f es = some A → es.all plainE = true ∧ ∀ st P, vA G n A st P → TEs c (backTo pos (starEach es c.env)) st P
  | [], A, h => by
    cases h
    exact ⟨rfl, fun st P hv => TEs.nil (by simpa only [vA] using hv)⟩
  | e :: es, A, h => by
    unfold cArgs at h
    split at h
    · rename_i hp
      split at h
      · rename_i E R h1 h2
        cases h
        obtain ⟨g1, g2⟩ := cArgs_ok ih (pos := pos) h2
        refine ⟨by rw [List.all_cons, hp, g1]; rfl, fun st P hv => TEs.star hp ((ih _ _ h1 st _ ?_).mono fun a st1 h => g2 _ _ h)⟩
        simp only [vA] at hv
        exact hv
      · cases h
    · cases h

noncomputable def Okay (G : Gl) (n : Nat) (c : Cx G) (e : PySem.Expr) (E : IE) : Prop := ∀ st P, vE G n E st P → TE c e st P
theorem cCall_ok (hG : TabC c t) (hn : n ≤ c.lv) {f : PySem.Expr → Option IE} (ih : ∀ e E, f e = some E → Okay G n c e E) {x : Str} {p pos : Pos} {args : List PySem.Expr} {E : IE} (h : cCall t c.sc.names f x args = some E) : Okay G n c (.Call (.Name x p) args [] pos) E := by
  intro st P hv
  unfold cCall at h
  split at h
  · rename_i hg
    obtain ⟨g1, g2⟩ := isGlob_ok hg
    split at h
    · rename_i fa hf
      obtain ⟨A, hA, rfl⟩ := Option.map_eq_some_iff.mp h
      obtain ⟨h1, h2⟩ := hG.gt _ (lk_mem hf)
      obtain ⟨h3, h4⟩ := cArgs_ok ih (pos := pos) hA
      simp only [vE] at hv
      exact TE.call hn g1 g2 h1 h2 h3 (h4 _ _ hv)
    · split at h
      · rename_i hb
        have hgb := hG.gb _ hb
        split at h
        · rename_i k e hk
          split at h
          · rename_i hp
            obtain ⟨E', hE, rfl⟩ := Option.map_eq_some_iff.mp h
            unfold cOne at hk
            split at hk
            · rename_i hx; subst hx; cases hk
              simp only [vE] at hv
              exact TE.len g1 hgb hp (ih _ _ hE _ _ hv)
            · split at hk
              · rename_i hx; subst hx; cases hk
                simp only [vE] at hv
                exact TE.ord g1 hgb hp (ih _ _ hE _ _ hv)
              · split at hk
                · rename_i hx; subst hx; cases hk
                  simp only [vE] at hv
                  exact TE.chr g1 hgb hp (ih _ _ hE _ _ hv)
                · split at hk
                  · rename_i hx; subst hx; cases hk
                    simp only [vE] at hv
                    exact TE.abs g1 hgb hp (ih _ _ hE _ _ hv)
                  · split at hk
                    · rename_i hx; subst hx; cases hk
                      simp only [vE] at hv
                      exact TE.toInt g1 hgb hp (ih _ _ hE _ _ hv)
                    · split at hk
                      · rename_i hx; subst hx; cases hk
                        simp only [vE] at hv
                        exact TE.sorted g1 hgb hp (ih _ _ hE _ _ hv)
                      · cases hk
          · cases h
        · cases h
      · cases h
  · cases h
theorem cMeth_ok (hG : TabC c t) (hn : n ≤ c.lv) {f : PySem.Expr → Option IE} (ih : ∀ e E, f e = some E → Okay G n c e E) {o : PySem.Expr} {name : Str} {apos pos : Pos} {args : List PySem.Expr} {E : IE}
    (ho : notCall o = true) (hl : args.length < 30) (hpos : (apos.endLine == pos.line) = true) (h : cMeth t f o name args = some E) : Okay G n c (.Call (.Attribute o name apos) args [] pos) E := by
  intro st P hv
  unfold cMeth at h
  split at h
  · rename_i C fa hf
    split at h
    · rename_i O A hO hA
      cases h
      obtain ⟨h3, h4⟩ := cArgs_ok ih (pos := pos) hA
      simp only [vE] at hv
      refine TE.meth hn (hG.mt _ (lk_mem hf)) ho h3 hl hpos ((ih _ _ hO _ _ hv).mono fun a st1 h => ?_)
      unfold onInst at h
      split at h
      · split at h
        · rename_i i x2 C' fs hi
          obtain ⟨rfl, h⟩ := h
          exact ⟨i, fs, rfl, hi, h4 _ _ h⟩
        · exact h.elim
      · exact h.elim
    · cases h
  · split at h
    · rename_i k e hk
      split at h
      · rename_i hp
        split at h
        · rename_i O E' hO hE
          cases h
          have str : ∀ {a : AV} {st1 : ASt} {R : Str → AV → ASt → Prop}, onStr a (fun x => vE G n E' st1 (R x)) → ∃ x, a = .str x ∧ TE c e st1 (R x) := by
            intro a st1 R h
            unfold onStr at h
            split at h
            · exact ⟨_, rfl, ih _ _ hE _ _ h⟩
            · exact h.elim
          unfold cMet at hk
          split at hk
          · rename_i hx; subst hx; cases hk
            simp only [vE] at hv
            refine TE.append ho hp hpos ((ih _ _ hO _ _ hv).mono fun a st1 h => ?_)
            unfold onList at h
            split at h
            · split at h
              · rename_i i x2 l hi
                exact ⟨⟨i, l, rfl, hi⟩, ih _ _ hE _ _ h⟩
              · exact h.elim
            · exact h.elim
          · split at hk
            · rename_i hx; subst hx; cases hk
              simp only [vE] at hv
              exact TE.find ho hp hpos ((ih _ _ hO _ _ hv).mono fun a st1 h => str h)
            · split at hk
              · rename_i hx; subst hx; cases hk
                simp only [vE] at hv
                exact TE.join ho hp hpos ((ih _ _ hO _ _ hv).mono fun a st1 h => str h)
              · split at hk
                · rename_i hx; subst hx; cases hk
                  simp only [vE] at hv
                  exact TE.split ho hp hpos ((ih _ _ hO _ _ hv).mono fun a st1 h => str h)
                · cases hk
        · cases h
      · cases h
    · split at h
      · rename_i hx
        subst hx
        obtain ⟨O, hO, rfl⟩ := Option.map_eq_some_iff.mp h
        simp only [vE] at hv
        refine TE.isalnum ho hpos ((ih _ _ hO _ _ hv).mono fun a st1 h => ?_)
        unfold onStr at h
        split at h
        · exact ⟨_, rfl, h⟩
        · exact h.elim
      · cases h
    · cases h
theorem bin2_ok {α β γ : Type} {f : α → β → γ} {a : Option α} {b : Option β} {E : γ} (h : bin2 f a b = some E) : ∃ A B, a = some A ∧ b = some B ∧ E = f A B := by
  cases a with
  | none => cases b <;> cases h
  | some A => cases b with
    | none => cases h
    | some B => cases h; exact ⟨A, B, rfl, rfl, rfl⟩
theorem bin3_ok {α β γ δ : Type} {f : α → β → γ → δ} {a : Option α} {b : Option β} {d : Option γ} {E : δ} (h : bin3 f a b d = some E) : ∃ A B D, a = some A ∧ b = some B ∧ d = some D ∧ E = f A B D := by
  cases d with
  | none => cases h
  | some D => obtain ⟨A, B, h1, h2, h3⟩ := bin2_ok h; exact ⟨A, B, D, h1, h2, rfl, h3⟩
theorem many_in : ∀ (es : List PySem.Expr) (is : List Nat), cNames c.sc.names es = some is → (assignEach es c.env).length = is.length ∧ (assignEach es c.env).findIdx? (·.1) = none ∧
    ∀ (l : List AV) (vs : List Value) (st : ASt) (fm : Fm) (s : Shared) (Q : Unit → Shared → Prop), l.length = is.length → l.length = vs.length → Rel c st ⟨l ++ fm.as, vs ++ fm.vs, fm.xs⟩ s → (∀ s', Rel c { st with env := setMany is l st.env } fm s' → Q () s') →
      wpAny c.M c.A (assignInOrder ((assignEach es c.env).map (·.2)) vs) Q noE s
  | [], is, h => by
    cases h
    refine ⟨rfl, rfl, fun l vs st fm s Q h1 h2 r q => ?_⟩
    cases l with
    | nil => cases vs with
      | nil => exact assignInOrder_nil (q _ r)
      | cons v vs => simp at h2
    | cons a l => simp at h1
  | e :: es, is, h => by
    cases e <;> first | cases h | skip
    rename_i x p
    obtain ⟨i, is, h1, h2, rfl⟩ := bin2_ok (show bin2 List.cons (findLoc x c.sc.names 0) (cNames c.sc.names es) = some is from h)
    obtain ⟨g1, g2, g3⟩ := many_in es is h2
    obtain ⟨k, e, hk⟩ := findLoc_ok h1
    have e : i = k := by omega
    subst e
    have e1 : assignEach (.Name x p :: es) c.env = (false, assign (.Name x p) c.env) :: assignEach es c.env := rfl
    rw [e1]
    refine ⟨by simp [g1], by rw [List.findIdx?_cons]; simp [g2], fun l vs st fm s Q h1 h2 r q => ?_⟩
    cases l with
    | nil => simp at h1
    | cons a l => cases vs with
      | nil => simp at h2
      | cons v vs =>
        refine assignInOrder_cons (PyProof.Rows.assign_Name (store_sound (fm := ⟨l ++ fm.as, vs ++ fm.vs, fm.xs⟩) hk r fun s2 r2 => ?_))
        exact g3 l vs _ fm s2 Q (by simpa using h1) (by simpa using h2) r2 q
theorem stored_not {es : List PySem.Expr} {k : Nat} {tp : Pos} {e : PySem.Expr} {env : Env} (h : isTup e = false) : swappedStores [.Tuple es k tp] e env = pure none := by
  cases e <;> first | rfl | simp [isTup] at h
theorem TS.many {st : ASt} {es : List PySem.Expr} {is : List Nat} {e : PySem.Expr} {tp pos : Pos} {k : Nat} {P : AFl → ASt → Prop} (hx : cNames c.sc.names es = some is) (h1 : noComp e = true) (h2 : isTup e = false)
    (h : TE c e st fun a st1 => ∃ l, a = .tup l ∧ l.length = is.length ∧ P .next { st1 with env := setMany is l st1.env }) : TS c (.Assign [.Tuple es k tp] e pos) st P := by
  intro fm s hr Q q
  refine Assign_Tuple (h fm s hr _ fun a v st1 s1 g1 r1 => ?_) (by unfold swapsWithSole; exact swaps_plain h1) (stored_not h2)
  obtain ⟨l, rfl, hl, g1⟩ := g1
  obtain ⟨k1, k2, k3⟩ := many_in es is hx
  obtain ⟨ρ, N, m, d⟩ := r1
  cases d.top with
  | tup hm hv =>
    have hlen := hv.length
    refine unpackN_ d.F d.nw ⟨_, d.nw.get hm, rfl, _, rfl⟩ c.hh (by rw [k1, ← hl, ← hlen]; simp) k2 fun h' F' N' => ?_
    refine k3 l _ st1 fm _ _ hl hlen.symm ⟨ρ, N, m, (d.pop.same (k := s1.toks) F' N').fmTo (hv.append d.pop.pend) rfl⟩ fun s' r' => q .next .next _ _ g1 r'
end
end Mine
end
section
set_option maxRecDepth 20000
namespace Mine
section
variable {G : Gl} {c : Cx G} {t : Tab} {n : Nat}
noncomputable def OkayT (G : Gl) (n : Nat) (c : Cx G) (e : PySem.Expr) (E : IT) : Prop := ∀ st P, vT G n E st P → TT c e st P
theorem TT.and1 {x : PySem.Expr} {pos : Pos} {st : ASt} {P : Bool → ASt → Prop} (h : TT c x st P) : TT c (.BoolOp .And [x] pos) st P :=
  TT.and2 (h.mono fun b st1 h => ⟨fun e => TT.and0 (by subst e; exact h), fun e => by subst e; exact h⟩)
theorem TT.or1 {x : PySem.Expr} {pos : Pos} {st : ASt} {P : Bool → ASt → Prop} (h : TT c x st P) : TT c (.BoolOp .Or [x] pos) st P :=
  TT.or2 (h.mono fun b st1 h => ⟨fun e => by subst e; exact h, fun e => TT.or0 (by subst e; exact h)⟩)
theorem true_plain {e : PySem.Expr} (h : isCmpLike e = true) : PySem.isTrue e c.env (eval e c.env) = (do let v ← eval e c.env; standAt e.pos; holding [v] (truthy v)) := by
  cases e <;> first | rfl | cases h
theorem cConst_ok {v : Const} {k : Nat} {p : Pos} {E : IE} (h : cConst v = some E) : Okay G n c (.Constant v k p) E := by
  intro st P hv
  cases v <;> cases h <;> simp only [vE] at hv
  · exact TE.none hv
  · exact TE.bool hv
  · exact TE.int hv
  · exact TE.str hv
theorem cBin_ok {op : Operator} {l r : PySem.Expr} {f : PySem.Expr → Option IE} {p : Pos} (ih : ∀ e E, f e = some E → Okay G n c e E) {E : IE} (h : cBin (isTup r) (isRep r) op (f l) (f r) = some E) : Okay G n c (.BinOp l op r p) E := by
  intro st P hv
  unfold cBin at h
  split at h
  · cases h
  · split at h
    · rename_i hc
      rw [Bool.and_eq_true] at hc
      have ho := of_decide_eq_true hc.2
      subst ho
      obtain ⟨A, B, h1, h2, rfl⟩ := bin2_ok h
      simp only [vE] at hv
      exact TE.ladd ((ih _ _ h1 _ _ hv).mono fun a st1 h => ih _ _ h2 _ _ h)
    · obtain ⟨A, B, h1, h2, rfl⟩ := bin2_ok h
      simp only [vE] at hv
      exact TE.bin ((ih _ _ h1 _ _ hv).mono fun a st1 h => ih _ _ h2 _ _ h)
theorem cRep_ok {op : Operator} {l r : PySem.Expr} {f : PySem.Expr → Option IE} {p : Pos} (ih : ∀ e E, f e = some E → Okay G n c e E) {es : List PySem.Expr} {i : Int} {E : IE} (hr : asRep l op r = some (es, i)) (h : ((cArgs f es).map fun A => IE.lmul A i) = some E) : Okay G n c (.BinOp l op r p) E := by
  intro st P hv
  obtain ⟨p1, k, p2, rfl, rfl, rfl⟩ := asRep_ok hr
  obtain ⟨A, hA, rfl⟩ := Option.map_eq_some_iff.mp h
  simp only [vE] at hv
  exact TE.lmul hv.1 ((cArgs_ok ih hA).2 _ _ hv.2)
theorem cComp_ok (hG : TabC c t) {elt : PySem.Expr} {gens : List Comprehension} {sc : Scope} {p : Pos} {E : IE} (h : cComp t c.sc.names elt gens sc = some E) : Okay G n c (.ListComp elt gens sc p) E := by
  intro st P hv
  unfold cComp at h
  split at h
  · rename_i w b a x1 x2 y he hg
    split at h
    · rename_i hc
      obtain ⟨⟨rfl, rfl⟩, hs, hl, hy, hw⟩ := hc
      obtain ⟨i, j, h1, h2, rfl⟩ := bin2_ok h
      obtain ⟨p1, p2, p3, p4, p5, p6, n', p7, rfl⟩ := pairElt_ok he
      obtain ⟨q1, q2, n2, q3, q4, rfl⟩ := pairGen_ok hg
      obtain ⟨k, e, hk⟩ := findLoc_ok h2
      have e : j = k := by omega
      subst e
      obtain ⟨g1, g2⟩ := isCell_ok hw
      simp only [vE] at hv
      unfold onLoc at hv
      split at hv
      · rename_i v hv1
        unfold onLst at hv
        split at hv
        · rename_i l
          unfold onCel at hv
          split at hv
          · rename_i u hu
            unfold onStr at hv
            split at hv
            · rename_i x
              unfold onPrs at hv
              split at hv
              · rename_i l' hl'
                exact TE.pairs hs (hG.gb _ hl) hk (beq_eq_false_iff_ne.mpr hy) g1 (hG.cel _ _ g1 (lk_mem h1)) hv1 hu hl' hv.1 hv.2
              · exact hv.elim
            · exact hv.elim
          · exact hv.elim
        · exact hv.elim
      · exact hv.elim
    · cases h
  · cases h
theorem cCmp_ok {α : Type} {k : CmpOp → IE → IE → α} {f : PySem.Expr → Option IE} {l : PySem.Expr} {ops : List CmpOp} {rs : List PySem.Expr} {E : α} (h : cCmp k f l ops rs = some E) :
    ∃ op r L R, ops = [op] ∧ rs = [r] ∧ behindInMarks op r = false ∧ f l = some L ∧ f r = some R ∧ E = k op L R := by
  cases ops with
  | nil => cases h
  | cons op ops =>
    cases ops with
    | cons _ _ => cases h
    | nil =>
      cases rs with
      | nil => cases h
      | cons r rs =>
        cases rs with
        | cons _ _ => cases h
        | nil =>
          replace h : (if behindInMarks op r then none else bin2 (k op) (f l) (f r)) = some E := h
          split at h
          · cases h
          · rename_i hb
            obtain ⟨A, B, h1, h2, rfl⟩ := bin2_ok h
            exact ⟨op, r, A, B, rfl, rfl, by simpa using hb, h1, h2, rfl⟩
theorem cBool_ok {α : Type} {ka ko : α → α → α} {f : PySem.Expr → Option α} {op : BoolOp} {es : List PySem.Expr} {p : Pos} {E : α} (h : cBool ka ko f op es p = some E) :
    (∃ x, es = [x] ∧ f x = some E) ∨ ∃ x y rest A B, es = x :: y :: rest ∧ f x = some A ∧ f (.BoolOp op (y :: rest) p) = some B ∧ ((op = .And ∧ E = ka A B) ∨ (op = .Or ∧ E = ko A B)) := by
  cases es with
  | nil => cases h
  | cons x es =>
    cases es with
    | nil => exact .inl ⟨x, rfl, h⟩
    | cons y rest =>
      cases op with
      | And => obtain ⟨A, B, h1, h2, rfl⟩ := bin2_ok (show bin2 ka (f x) (f (.BoolOp .And (y :: rest) p)) = some E from h); exact .inr ⟨x, y, rest, A, B, rfl, h1, h2, .inl ⟨rfl, rfl⟩⟩
      | Or => obtain ⟨A, B, h1, h2, rfl⟩ := bin2_ok (show bin2 ko (f x) (f (.BoolOp .Or (y :: rest) p)) = some E from h); exact .inr ⟨x, y, rest, A, B, rfl, h1, h2, .inr ⟨rfl, rfl⟩⟩
theorem locOf {x : Option IE} {α : Type} {k : Nat → Option α} {E : α} (h : (match x with | some (.loc i) => k i | _ => none) = some E) : ∃ i, x = some (.loc i) ∧ k i = some E := by
  cases x with
  | none => cases h
  | some x => cases x <;> first | cases h | exact ⟨_, rfl, h⟩
theorem cAttr_ok (hG : TabC c t) {o : PySem.Expr} {a : Str} {p : Pos} {E : IE} (h : cAttr t c.sc.names o a = some E) : Okay G n c (.Attribute o a p) E := by
  intro st P hv
  cases o <;> first | cases h | skip
  rename_i x xp
  obtain ⟨i, h1, h⟩ := locOf (show (match cName t c.sc.names x with | some (.loc i) => (atIdx a).map (IE.attr i) | _ => none) = some E from h)
  obtain ⟨k, h2, rfl⟩ := Option.map_eq_some_iff.mp h
  obtain ⟨rfl, h4⟩ := atIdx_ok h2
  refine TE.attr h4 (cName_ok (n := n) hG h1 ?_)
  simp only [vE] at hv ⊢
  exact hv
theorem cSlice_ok (hG : TabC c t) {f : PySem.Expr → Option IE} (ih : ∀ e E, f e = some E → Okay G n c e E) {v : PySem.Expr} {lo hi st' : Option PySem.Expr} {sp p : Pos} {E : IE} (h : cSlice t c.sc.names f v lo hi st' = some E) : Okay G n c (.Subscript v (.Slice lo hi st' sp) p) E := by
  intro st P hv
  cases st' with
  | some _ => cases h
  | none =>
    cases hi with
    | none => cases h
    | some hi =>
      cases lo with
      | some lo =>
        obtain ⟨A, B, C, h1, h2, h3, rfl⟩ := bin3_ok (show bin3 IE.slc (f v) (f lo) (f hi) = some E from h)
        simp only [vE] at hv
        exact TE.slc ((ih _ _ h1 _ _ hv).mono fun a st1 h => (ih _ _ h2 _ _ h).mono fun i st2 h => ih _ _ h3 _ _ h)
      | none =>
        cases v <;> first | cases h | skip
        rename_i x xp
        obtain ⟨i, h1, h⟩ := locOf (show (match cName t c.sc.names x with | some (.loc i) => (f hi).map (IE.upto i) | _ => none) = some E from h)
        obtain ⟨H, h2, rfl⟩ := Option.map_eq_some_iff.mp h
        refine TE.upto ((cName_ok (n := n) hG h1 ?_ : TE c _ st fun a st1 => vE G n H st1 fun j st2 => Upto st2.heap a j fun v => P v st2).mono fun a st1 h => ih _ _ h2 _ _ h)
        simp only [vE] at hv ⊢
        exact hv
theorem idx_plain {f : PySem.Expr → Option IE} (ih : ∀ e E, f e = some E → Okay G n c e E) {v i : PySem.Expr} {p : Pos} {E : IE} (h : (if plainE i then bin2 IE.idx (f v) (f i) else none) = some E) : Okay G n c (.Subscript v i p) E := by
  intro st P hv
  split at h
  · rename_i hp
    obtain ⟨A, B, h1, h2, rfl⟩ := bin2_ok h
    simp only [vE] at hv
    exact TE.idx hp ((ih _ _ h1 _ _ hv).mono fun a st1 h => ih _ _ h2 _ _ h)
  · cases h
theorem cSub_ok (hG : TabC c t) {f : PySem.Expr → Option IE} (ih : ∀ e E, f e = some E → Okay G n c e E) {v i : PySem.Expr} {p : Pos} {E : IE} (h : cSub t c.sc.names f v i = some E) : Okay G n c (.Subscript v i p) E := by
  unfold cSub at h
  split at h
  · exact cSlice_ok hG ih h
  · unfold cIdx at h
    exact idx_plain ih h
theorem cAny_ok (hG : TabC c t) (hn : n ≤ c.lv) {g : PySem.Expr → Option IE} (ih : ∀ e E, g e = some E → Okay G n c e E) {f : PySem.Expr} {args : List PySem.Expr} {kws : List Keyword} {pos : Pos} {E : IE} (h : cAny t c.sc.names g f args kws pos = some E) : Okay G n c (.Call f args kws pos) E := by
  unfold cAny at h
  split at h
  · split at h
    · exact cCall_ok hG hn ih h
    · split at h
      · rename_i hc
        rw [Bool.and_eq_true, Bool.and_eq_true] at hc
        exact cMeth_ok hG hn ih hc.1.1 (of_decide_eq_true hc.1.2) hc.2 h
      · cases h
    · cases h
  · cases h
theorem cE_ok (hG : TabC c t) (hn : n ≤ c.lv) : ∀ m, (∀ e E, cE t c.sc.names m e = some E → Okay G n c e E) ∧ (∀ e T, cT t c.sc.names m e = some T → OkayT G n c e T) := by
  intro m
  induction m with
  | zero => exact ⟨fun e E h => (by cases h), fun e E h => (by cases h)⟩
  | succ m ih =>
    obtain ⟨ih, ihT⟩ := ih
    refine ⟨fun e E h => ?_, fun e E h => ?_⟩
    · cases e with
      | Constant v k p => exact cConst_ok h
      | Name x p => intro st P hv; exact cName_ok hG h hv
      | BinOp l op r p =>
        replace h : (match asRep l op r with
          | some (es, i) => (cArgs (cE t c.sc.names m) es).map fun A => IE.lmul A i
          | none => cBin (isTup r) (isRep r) op (cE t c.sc.names m l) (cE t c.sc.names m r)) = some E := h
        split at h
        · rename_i es i hr
          exact cRep_ok ih hr h
        · exact cBin_ok ih h
      | ListComp elt gens sc p => exact cComp_ok hG h
      | UnaryOp op e p =>
        replace h : (if op = .USub then (cE t c.sc.names m e).map IE.neg else none) = some E := h
        split at h
        · rename_i ho
          subst ho
          obtain ⟨A, hA, rfl⟩ := Option.map_eq_some_iff.mp h
          intro st P hv
          simp only [vE] at hv
          exact TE.neg (ih _ _ hA _ _ hv)
        · cases h
      | Compare l ops rs p =>
        obtain ⟨op, r, L, R, rfl, rfl, hb, h1, h2, rfl⟩ := cCmp_ok (show cCmp IE.cmp (cE t c.sc.names m) l ops rs = some E from h)
        intro st P hv
        simp only [vE] at hv
        exact TE.cmp hb ((ih _ _ h1 _ _ hv).mono fun a st1 h => ih _ _ h2 _ _ h)
      | BoolOp op es p =>
        intro st P hv
        rcases cBool_ok (show cBool IE.and IE.or (cE t c.sc.names m) op es p = some E from h) with ⟨x, rfl, h1⟩ | ⟨x, y, rest, A, B, rfl, h1, h2, ⟨rfl, rfl⟩ | ⟨rfl, rfl⟩⟩
        · exact TE.bool1 (ih _ _ h1 _ _ hv)
        · simp only [vE] at hv
          exact TE.and2 ((ih _ _ h1 _ _ hv).mono fun a st1 h => onB_mono h fun b h => fork_mono h (fun h => ih _ _ h2 _ _ h) id)
        · simp only [vE] at hv
          exact TE.or2 ((ih _ _ h1 _ _ hv).mono fun a st1 h => onB_mono h fun b h => fork_mono h id fun h => ih _ _ h2 _ _ h)
      | IfExp u b o p =>
        obtain ⟨T, B, O, h1, h2, h3, rfl⟩ := bin3_ok (show bin3 IE.ite (cT t c.sc.names m u) (cE t c.sc.names m b) (cE t c.sc.names m o) = some E from h)
        intro st P hv
        simp only [vE] at hv
        exact TE.ite ((ihT _ _ h1 _ _ hv).mono fun x st1 h => fork_mono h (fun h => ih _ _ h2 _ _ h) fun h => ih _ _ h3 _ _ h)
      | Attribute o a p => exact cAttr_ok hG h
      | Subscript v i p => exact cSub_ok hG ih h
      | Tuple es k p =>
        obtain ⟨A, hA, rfl⟩ := Option.map_eq_some_iff.mp (show (cArgs (cE t c.sc.names m) es).map IE.tup = some E from h)
        intro st P hv
        simp only [vE] at hv
        exact TE.tup ((cArgs_ok ih hA).2 _ _ hv)
      | List es p =>
        obtain ⟨A, hA, rfl⟩ := Option.map_eq_some_iff.mp (show (cArgs (cE t c.sc.names m) es).map IE.lst = some E from h)
        intro st P hv
        simp only [vE] at hv
        exact TE.lst ((cArgs_ok ih hA).2 _ _ hv)
      | Dict ks vs p =>
        cases ks with
        | cons _ _ => cases h
        | nil => cases vs with
          | cons _ _ => cases h
          | nil => cases h; intro st P hv; exact TE.newD (by simpa only [vE] using hv)
      | Call f args kws pos => exact cAny_ok hG hn ih h
      | _ => cases h
    · have other : isCmpLike e = true → (cE t c.sc.names m e).map IT.pl = some E → OkayT G n c e E := by
        intro hc h st P hv
        obtain ⟨A, hA, rfl⟩ := Option.map_eq_some_iff.mp h
        simp only [vT] at hv
        exact TT.plain (true_plain hc) (ih _ _ hA _ _ hv)
      cases e with
      | Compare l ops rs p =>
        replace h : (if isNN ops rs then (cE t c.sc.names m l).map IT.nn else cCmp IT.cmp (cE t c.sc.names m) l ops rs) = some E := h
        split at h
        · rename_i hn
          obtain ⟨k, p', rfl, rfl⟩ := isNN_ok hn
          obtain ⟨A, hA, rfl⟩ := Option.map_eq_some_iff.mp h
          intro st P hv
          simp only [vT] at hv
          refine TT.notNone ((ih _ _ hA _ _ hv).mono fun a st1 h => ?_)
          unfold onNN at h
          split at h
          · exact ⟨trivial, h⟩
          · exact ⟨trivial, h⟩
          · exact h.elim
        obtain ⟨op, r, L, R, rfl, rfl, hb, h1, h2, rfl⟩ := cCmp_ok h
        intro st P hv
        simp only [vT] at hv
        exact TT.cmp hb ((ih _ _ h1 _ _ hv).mono fun a st1 h => ih _ _ h2 _ _ h)
      | BoolOp op es p =>
        intro st P hv
        rcases cBool_ok (show cBool IT.and IT.or (cT t c.sc.names m) op es p = some E from h) with ⟨x, rfl, h1⟩ | ⟨x, y, rest, A, B, rfl, h1, h2, ⟨rfl, rfl⟩ | ⟨rfl, rfl⟩⟩
        · cases op with
          | And => exact TT.and1 (ihT _ _ h1 _ _ hv)
          | Or => exact TT.or1 (ihT _ _ h1 _ _ hv)
        · simp only [vT] at hv
          exact TT.and2 ((ihT _ _ h1 _ _ hv).mono fun b st1 h => fork_mono h (fun h => ihT _ _ h2 _ _ h) id)
        · simp only [vT] at hv
          exact TT.or2 ((ihT _ _ h1 _ _ hv).mono fun b st1 h => fork_mono h id fun h => ihT _ _ h2 _ _ h)
      | Constant v k p => exact other rfl h
      | Name x p => exact other rfl h
      | Call f args kws pos => exact other rfl h
      | Attribute o a p => exact other rfl h
      | Subscript v i p => exact other rfl h
      | _ => cases h
end
end Mine
end
section
set_option maxRecDepth 20000
namespace Mine
section
variable {G : Gl} {c : Cx G} {t : Tab} {n : Nat}
theorem cR_ok (hG : TabC c t) (hn : n ≤ c.lv) {m : Nat} {e : PySem.Expr} {E : IE} (h : cR t c.sc.names m e = some E) : Okay G n c e E := by
  unfold cR at h
  split at h
  · obtain ⟨A, hA, rfl⟩ := Option.map_eq_some_iff.mp h
    intro st P hv
    simp only [vE] at hv
    exact TE.newL ((cArgs_ok (cE_ok hG hn m).1 hA).2 _ _ hv)
  · exact (cE_ok hG hn m).1 _ _ h
theorem findLoc_at {x : Str} {i : Nat} {l : List (Str × NameKind)} (h : findLoc x l 0 = some i) : l[i]? = some (x, .local) := by
  obtain ⟨k, e, hk⟩ := findLoc_ok h
  have e : i = k := by omega
  rw [e]; exact hk
theorem setItem_sound {st : ASt} {fm : Fm} {s : Shared} {a i v : AV} {av iv vv : Value} {P : ASt → Prop} {Q : Unit → Shared → Prop} (r : Rel c st (((fm.push v vv).push a av).push i iv) s) (h : SetItem st.heap a i v fun hp => P { st with heap := hp }) (q : ∀ st' s', P st' → Rel c st' fm s' → Q () s') :
    wpAny c.M c.A (setItem av iv vv) Q noE s := by
  unfold SetItem at h
  split at h
  · split at h
    · exact setIdx_sound r h q
    · exact setKey_sound r h q
    · exact h.elim
  · exact h.elim
theorem TS.setItem {st : ASt} {o i e : PySem.Expr} {p pos : Pos} {P : AFl → ASt → Prop} (hw : swapsWith e (some (.Subscript o i p)) pos.line c.env = pure false)
    (h : TE c e st fun v st1 => TE c o st1 fun a st2 => TE c i st2 fun b st3 => SetItem st3.heap a b v fun hp => P .next { st3 with heap := hp }) : TS c (.Assign [.Subscript o i p] e pos) st P := by
  intro fm s hr Q q
  exact wpAny_Assign_Subscript (h fm s hr _ fun v vv st1 s1 h1 r1 => h1 _ _ r1 _ fun a av st2 s2 h2 r2 => h2 _ _ r2 _ fun b bv st3 s3 h3 r3 => setItem_sound (P := fun st' => P .next st') r3 h3 fun st' s' p r => q .next .next _ _ p r) hw
theorem no_interactive : interactive c.env = false := by
  unfold interactive
  have h : c.env.scope = c.sc := rfl
  rw [h, c.hk]
  rfl
theorem goOn_seq {b : Stmt} {rest : List Stmt} {st : ASt} {P : AFl → ASt → Prop} (h : TS c b st (goOn (fun st1 => TSs c rest st1 P) P)) : TSs c (b :: rest) st P :=
  TSs.cons (Does.mono h fun fl st1 h => by cases fl <;> exact h)
theorem loop_ok {items : List AV} {i : Nat} {b : List Stmt} {f : ASt → (AFl → ASt → Prop) → Prop} (hf : ∀ st P, f st P → TSs c b st P) {st : ASt} {P : AFl → ASt → Prop} (h : vLoop items i f st P) : Loop c items i b st P := by
  obtain ⟨inv, h0, h1, h2⟩ := h
  exact ⟨inv, h0, fun k a e st1 hi => Does.mono (hf _ _ (h1 k a e st1 hi)) fun fl st2 h => by cases fl <;> exact h, h2⟩
theorem cTo_ok (hG : TabC c t) (hn : n ≤ c.lv) {m : Nat} {x e : PySem.Expr} {p : Pos} {S : IS} (hc : noComp e = true) (h : cTo t c.sc.names m x e = some S) : ∀ st P, vS G n S st P → TS c (.Assign [x] e p) st P := by
  intro st P hv
  have ihE := (cE_ok hG hn m).1
  cases x with
  | Name y q =>
    replace h : (if isCell c.sc.names y then bin2 IS.setC (lk y t.cel) (cE t c.sc.names m e) else bin2 IS.set (findLoc y c.sc.names 0) (cR t c.sc.names m e)) = some S := h
    split at h
    · rename_i hce
      obtain ⟨i, E, h1, h2, rfl⟩ := bin2_ok h
      obtain ⟨g1, g2⟩ := isCell_ok hce
      simp only [vS] at hv
      refine TS.setC g1 (hG.cel _ _ g1 (lk_mem h1)) (swaps_plain hc) ((ihE _ _ h2 _ _ hv).mono fun a st1 h => ?_)
      unfold isCel at h
      split at h
      · rename_i w hw; exact ⟨⟨w, hw⟩, h⟩
      · exact h.elim
    · obtain ⟨i, E, h1, h2, rfl⟩ := bin2_ok h
      simp only [vS] at hv
      exact TS.set (findLoc_at h1) (swaps_plain hc) (cR_ok hG hn h2 _ _ hv)
  | Attribute o a q =>
    obtain ⟨O, k, E, h1, h2, h3, rfl⟩ := bin3_ok (show bin3 IS.setA (cE t c.sc.names m o) (atIdx a) (cR t c.sc.names m e) = some S from h)
    obtain ⟨rfl, h4⟩ := atIdx_ok h2
    simp only [vS] at hv
    exact TS.setAttr h4 (swaps_plain hc) ((cR_ok hG hn h3 _ _ hv).mono fun a st1 h => ihE _ _ h1 _ _ h)
  | Subscript o i q =>
    obtain ⟨O, I, E, h1, h2, h3, rfl⟩ := bin3_ok (show bin3 IS.setI (cE t c.sc.names m o) (cE t c.sc.names m i) (cE t c.sc.names m e) = some S from h)
    simp only [vS] at hv
    exact TS.setItem (swaps_plain hc) ((ihE _ _ h3 _ _ hv).mono fun a st1 h => (ihE _ _ h1 _ _ h).mono fun a st1 h => ihE _ _ h2 _ _ h)
  | Tuple es k q =>
    replace h : (if isTup e then none else bin2 IS.many (cNames c.sc.names es) (cE t c.sc.names m e)) = some S := h
    split at h
    · cases h
    · rename_i ht
      obtain ⟨is, E, h1, h2, rfl⟩ := bin2_ok h
      simp only [vS] at hv
      refine TS.many h1 hc (by simpa using ht) ((ihE _ _ h2 _ _ hv).mono fun a st1 h => ?_)
      unfold onTup at h
      split at h
      · exact ⟨_, rfl, h⟩
      · exact h.elim
  | _ => cases h
theorem Aug_mono {op : Operator} {a b : AV} {k k' : AV → Prop} (h : Aug op a b k) (m : ∀ v, k v → k' v) : Aug op a b k' := by
  unfold Aug at h ⊢
  split at h
  · split at h
    · exact m _ h
    · exact m _ h
    · exact ⟨h.1, m _ h.2⟩
    · exact h.elim
  · split at h
    · exact ⟨h.1, m _ h.2⟩
    · exact h.elim
  · exact h.elim
theorem cAug_ok (hG : TabC c t) (hn : n ≤ c.lv) {m : Nat} {x e : PySem.Expr} {op : Operator} {p : Pos} {S : IS} (h : cAug t c.sc.names m x op e = some S) : ∀ st P, vS G n S st P → TS c (.AugAssign x op e p) st P := by
  intro st P hv
  have ihE := (cE_ok hG hn m).1
  cases x with
  | Name y q =>
    replace h : (if isCell c.sc.names y then bin2 (fun i E => IS.augC i op E) (lk y t.cel) (cE t c.sc.names m e) else if isLC e && decide (op = .Add) then bin2 IS.ext (findLoc y c.sc.names 0) (cE t c.sc.names m e) else bin2 (fun i E => IS.aug i op E) (findLoc y c.sc.names 0) (cE t c.sc.names m e)) = some S := h
    split at h
    · rename_i hce
      obtain ⟨i, E, h1, h2, rfl⟩ := bin2_ok h
      obtain ⟨g1, g2⟩ := isCell_ok hce
      simp only [vS] at hv
      unfold onCel at hv
      split at hv
      · rename_i a ha
        refine TS.augC g1 (hG.cel _ _ g1 (lk_mem h1)) ha ((ihE _ _ h2 _ _ hv).mono fun b st1 h => Aug_mono h fun v h => ?_)
        unfold isCel at h
        split at h
        · rename_i w hw; exact ⟨⟨w, hw⟩, h⟩
        · exact h.elim
      · exact hv.elim
    · split at h
      · rename_i hlc
        rw [Bool.and_eq_true] at hlc
        have ho := of_decide_eq_true hlc.2
        subst ho
        obtain ⟨i, E, h1, h2, rfl⟩ := bin2_ok h
        simp only [vS] at hv
        unfold onLoc at hv
        split at hv
        · rename_i a ha
          exact TS.ext (findLoc_at h1) ha (ihE _ _ h2 _ _ hv)
        · exact hv.elim
      · obtain ⟨i, E, h1, h2, rfl⟩ := bin2_ok h
        simp only [vS] at hv
        unfold onLoc at hv
        split at hv
        · rename_i a ha
          exact TS.aug (findLoc_at h1) ha (ihE _ _ h2 _ _ hv)
        · exact hv.elim
  | Subscript o i q =>
    replace h : (if plainE i then bin3 (fun O I E => IS.augI O I op E) (cE t c.sc.names m o) (cE t c.sc.names m i) (cE t c.sc.names m e) else none) = some S := h
    split at h
    · rename_i hc
      obtain ⟨O, I, E, h1, h2, h3, rfl⟩ := bin3_ok h
      simp only [vS] at hv
      refine TS.augIdx hc ((ihE _ _ h1 _ _ hv).mono fun a st1 h => (ihE _ _ h2 _ _ h).mono fun b st2 h => ?_)
      unfold GetIdx at h
      split at h
      · split at h
        · rename_i l hl
          obtain ⟨h1, w, h2, h⟩ := h
          exact ⟨l, _, w, hl, rfl, h1, h2, ihE _ _ h3 _ _ h⟩
        · exact h.elim
      · exact h.elim
    · cases h
  | _ => cases h
theorem rangeOf_ok {names : List (Str × NameKind)} {it e : PySem.Expr} (h : rangeOf t names it = some e) : ∃ q p, it = .Call (.Name (PySem.Str.ofString "range") q) [e] [] p ∧ isGlob names (PySem.Str.ofString "range") = true ∧ (PySem.Str.ofString "range") ∈ t.gb := by
  cases it <;> first | cases h | skip
  rename_i f args kws p
  cases f <;> first | cases h | skip
  rename_i x q
  replace h : (if x = "range" ∧ isGlob names x = true ∧ x ∈ t.gb then (match args with | [e] => (match kws with | [] => some e | _ => none) | _ => none) else none) = some e := h
  split at h
  · rename_i hc
    obtain ⟨rfl, h1, h2⟩ := hc
    split at h
    · split at h
      · cases h; exact ⟨q, p, rfl, h1, h2⟩
      · cases h
    · cases h
  · cases h
theorem cFor_ok (hG : TabC c t) (hn : n ≤ c.lv) {m : Nat} {x it : PySem.Expr} {b : List Stmt} {B' : Option IS} (hB : ∀ B, B' = some B → ∀ st P, vS G n B st P → TSs c b st P) {o : List Stmt} {p : Pos} {S : IS} (h : cFor t c.sc.names (cE t c.sc.names m) x it B' o = some S) :
    ∀ st P, vS G n S st P → TS c (.For x it b o p) st P := by
  intro st P hv
  have ihE := (cE_ok hG hn m).1
  cases o with
  | cons _ _ => cases h
  | nil =>
    cases x <;> first | cases h | skip
    rename_i x q
    replace h : (match rangeOf t c.sc.names it with
      | some e => if plainE e then bin3 IS.forR (findLoc x c.sc.names 0) (cE t c.sc.names m e) B' else none
      | none => if notSet it then (if isName it then bin3 IS.forS (findLoc x c.sc.names 0) (cE t c.sc.names m it) B' else bin3 IS.forL (findLoc x c.sc.names 0) (cE t c.sc.names m it) B') else none) = some S := h
    split at h
    · rename_i e he
      split at h
      · rename_i hc
        obtain ⟨i, E, B, h1, h2, h3, rfl⟩ := bin3_ok h
        obtain ⟨q1, q2, rfl, hc1, hc2⟩ := rangeOf_ok he
        simp only [vS] at hv
        refine TS.forR (findLoc_at h1) (isGlob_ok hc1).1 (hG.gb _ hc2) hc ((ihE _ _ h2 _ _ hv).mono fun a st1 h => ?_)
        unfold onInt at h
        split at h
        · exact ⟨_, rfl, h.1, loop_ok (fun st P => hB _ h3 st P) h.2⟩
        · exact h.elim
      · cases h
    · split at h
      · rename_i hc
        split at h
        · obtain ⟨i, E, B, h1, h2, h3, rfl⟩ := bin3_ok h
          simp only [vS] at hv
          refine TS.forS (findLoc_at h1) hc ((ihE _ _ h2 _ _ hv).mono fun a st1 h => ?_)
          unfold onStr at h
          split at h
          · exact ⟨_, rfl, loop_ok (fun st P => hB _ h3 st P) h⟩
          · exact h.elim
        · obtain ⟨i, E, B, h1, h2, h3, rfl⟩ := bin3_ok h
          simp only [vS] at hv
          refine TS.forL (findLoc_at h1) hc ((ihE _ _ h2 _ _ hv).mono fun a st1 h => ?_)
          unfold onLst at h
          split at h
          · exact ⟨_, rfl, loop_ok (fun st P => hB _ h3 st P) h⟩
          · exact h.elim
      · cases h
theorem cS_ok (hG : TabC c t) (hn : n ≤ c.lv) : ∀ m, (∀ s S, cS t c.sc.names m s = some S → ∀ st P, vS G n S st P → TS c s st P) ∧ (∀ b S, cB t c.sc.names m b = some S → ∀ st P, vS G n S st P → TSs c b st P) := by
  intro m
  induction m with
  | zero => exact ⟨fun e E h => (by cases h), fun e E h => (by cases h)⟩
  | succ m ih =>
    obtain ⟨ih, ihB⟩ := ih
    have ihE := (cE_ok hG hn m).1
    have ihT := (cE_ok hG hn m).2
    refine ⟨fun s S h st P hv => ?_, fun b S h st P hv => ?_⟩
    · cases s with
      | Return v p =>
        cases v with
        | none => cases h; simp only [vS, vE] at hv; exact TS.ret0 hv
        | some e =>
          obtain ⟨E, hE, rfl⟩ := Option.map_eq_some_iff.mp (show (cR t c.sc.names m e).map IS.ret = some S from h)
          simp only [vS] at hv
          exact TS.ret (cR_ok hG hn hE _ _ hv)
      | Break p => cases h; simp only [vS] at hv; exact TS.brk hv
      | Continue p => cases h; simp only [vS] at hv; exact TS.cont hv
      | Pass p => cases h; simp only [vS] at hv; exact TS.pass hv
      | Expr e p =>
        replace h : (if noComp e then (cE t c.sc.names m e).map IS.exp else none) = some S := h
        split at h
        · rename_i hc
          obtain ⟨E, hE, rfl⟩ := Option.map_eq_some_iff.mp h
          simp only [vS] at hv
          exact TS.exp no_interactive (swaps_plain hc) (ihE _ _ hE _ _ hv)
        · cases h
      | If u b o p =>
        obtain ⟨T, B, O, h1, h2, h3, rfl⟩ := bin3_ok (show bin3 IS.ife (cT t c.sc.names m u) (cB t c.sc.names m b) (cB t c.sc.names m o) = some S from h)
        simp only [vS] at hv
        exact TS.ife ((ihT _ _ h1 _ _ hv).mono fun b st1 h => fork_mono h (fun h => ihB _ _ h2 _ _ h) fun h => ihB _ _ h3 _ _ h)
      | While u b o p =>
        cases o with
        | cons _ _ => cases h
        | nil =>
          obtain ⟨T, B, h1, h2, rfl⟩ := bin2_ok (show bin2 IS.whl (cT t c.sc.names m u) (cB t c.sc.names m b) = some S from h)
          simp only [vS] at hv
          obtain ⟨inv, μ, h0, hv⟩ := hv
          refine TS.whl inv μ h0 fun st1 hi => (ihT _ _ h1 _ _ (hv st1 hi)).mono fun b st2 h => fork_mono h (fun h => Does.mono (ihB _ _ h2 _ _ h) fun fl st3 h => by cases fl <;> exact h) id
      | For x it b o p => exact cFor_ok hG hn (fun B h => ihB _ _ h) h _ _ hv
      | Assign ts e p =>
        cases ts with
        | nil => cases h
        | cons x ts =>
          cases ts with
          | cons _ _ => cases h
          | nil =>
            replace h : (if noComp e then cTo t c.sc.names m x e else none) = some S := h
            split at h
            · rename_i hc
              exact cTo_ok hG hn hc h _ _ hv
            · cases h
      | AugAssign x op e p => exact cAug_ok hG hn h _ _ hv
      | _ => cases h
    · cases b with
      | nil => cases h; simp only [vS] at hv; exact TSs.nil hv
      | cons s r =>
        obtain ⟨S, R, h1, h2, rfl⟩ := bin2_ok (show bin2 IS.seq (cS t c.sc.names m s) (cB t c.sc.names m r) = some S from h)
        simp only [vS] at hv
        refine goOn_seq (Does.mono (ih _ _ h1 _ _ hv) fun fl st1 h => ?_)
        cases fl <;> first | exact h | exact ihB _ _ h2 _ _ h
end
end Mine
end
section
set_option maxRecDepth 20000
namespace Mine
theorem DefAt.no_cell {K : Frag} {f : Addr} {names : List Str} {body : List Stmt} {scope : Scope} {das : List AV} {qual : Str} {cdv : Value} (D : DefAt K f names body scope das qual cdv) (x : Str) : scope.names.lookup x ≠ some .cell := by
  intro h
  rw [lk_lookup] at h
  exact D.cell _ (lk_mem h) rfl
noncomputable def FnOk (G : Gl) (t : Tab) (f : Addr) (k e : Nat) (das : List AV) (ir : IS) : Prop :=
  ∃ names body scope qual cdv, DefAt G.K f names body scope das qual cdv ∧ cB t scope.names 60 body = some ir ∧ names.length = k ∧ scope.names.length = k + e
theorem FnOk.go {G : Gl} {t : Tab} {f : Addr} {k e : Nat} {das : List AV} {ir : IS} (F : FnOk G t f k e das ir) (hG : TabOk G t) {n : Nat} {args : List AV} {hp : List AO} {P : AV → List AO → Prop} (hn : args.length + das.length = k)
    (hv : vS G n ir ⟨(args ++ das).map some ++ List.replicate e none, hp⟩ fun fl st => P (retOf fl) st.heap) : TF G (n + 1) f args hp P := by
  obtain ⟨names, body, scope, qual, cdv, D, hc, h1, h2⟩ := F
  refine TF.of D (by omega) fun c' hn hs => ?_
  rw [show scope.names.length - names.length = e by omega]
  refine (cS_ok (c := c') ⟨hG, fun x i h _ => absurd (by rw [hs] at h; exact h) (D.no_cell x)⟩ hn 60).2 _ _ ?_ _ _ hv
  rw [hs]
  exact hc
noncomputable def ClsOk (G : Gl) (t : Tab) (C fI : Addr) (k e : Nat) (das : List AV) (ir : IS) : Prop := NewOk G.K C fI ∧ FnOk G t fI k e das ir
theorem ClsOk.go {G : Gl} {t : Tab} {C fI : Addr} {k e : Nat} {das : List AV} {ir : IS} (F : ClsOk G t C fI k e das ir) (hG : TabOk G t) {n : Nat} {args : List AV} {hp : List AO} {P : AV → List AO → Prop} (hn : args.length + 1 + das.length = k)
    (hv : vS G n ir ⟨((.obj hp.length :: args) ++ das).map some ++ List.replicate e none, hp ++ [.inst C []]⟩ fun fl st => retOf fl = .none ∧ P (.obj hp.length) st.heap) : TF G (n + 1) C args hp P := by
  obtain ⟨W, names, body, scope, qual, cdv, D, hc, h1, h2⟩ := F
  refine TF.new W D (by omega) fun c' hn hs => ?_
  rw [show scope.names.length - names.length = e by omega]
  refine (cS_ok (c := c') ⟨hG, fun x i h _ => absurd (by rw [hs] at h; exact h) (D.no_cell x)⟩ hn 60).2 _ _ ?_ _ _ hv
  rw [hs]
  exact hc
theorem TF.up {G : Gl} {n m : Nat} {f : Addr} {args : List AV} {hp : List AO} {P : AV → List AO → Prop} (h : TF G n f args hp P) (hm : n ≤ m) : TF G m f args hp P := fun c hc => h c (by omega)
end Mine
end
section
set_option maxRecDepth 20000
namespace Mine
noncomputable def oc : Option Nat → Str
  | some x => ⟨#[x]⟩
  | none => ⟨#[]⟩
theorem beq_str {a b : Str} : (a == b) = (a.cps.toList == b.cps.toList) := by
  rw [Bool.eq_iff_iff, beq_iff_eq, beq_iff_eq]
  constructor
  · intro h; rw [h]
  · intro h
    cases a; cases b
    simpa using h
theorem oc_one (o : Option Nat) (c : Nat) : (oc o == ⟨#[c]⟩) = (o == some c) := by
  rw [beq_str]
  cases o with
  | none => rfl
  | some x => simp [oc]
theorem oc_none (o : Option Nat) : (oc o == ⟨#[]⟩) = o.isNone := by
  rw [beq_str]
  cases o <;> simp [oc]
theorem indices_clip (i j n : Nat) : Builtin.Str.strSliceIndices (some (i : Int)) (some (j : Int)) 1 n = Builtin.Str.strSliceIndices (some ((min i n : Nat) : Int)) (some ((min j n : Nat) : Int)) 1 n := by
  have a : ∀ k : Nat, max (0 : Int) (min (if (k : Int) < 0 then (k : Int) + (n : Int) else (k : Int)) (n : Int)) = max (0 : Int) (min (if ((min k n : Nat) : Int) < 0 then ((min k n : Nat) : Int) + (n : Int) else ((min k n : Nat) : Int)) (n : Int)) := by
    intro k
    rw [if_neg (Int.not_lt.mpr (Int.natCast_nonneg _)), if_neg (Int.not_lt.mpr (Int.natCast_nonneg _)), show ((min k n : Nat) : Int) = min (k : Int) (n : Int) by omega, Int.min_assoc, Int.min_self]
  simp only [Builtin.Str.strSliceIndices, show (1 : Int) > 0 by decide, if_true, a i, a j]
theorem slice_nat (x : Str) (i j : Nat) (h : i ≤ j) : Txt.slice x (some (i : Int)) (some (j : Int)) = ⟨((x.cps.toList.drop i).take (j - i)).toArray⟩ := by
  have e : Txt.slice x (some (i : Int)) (some (j : Int)) = Txt.slice x (some ((min i x.length : Nat) : Int)) (some ((min j x.length : Nat) : Int)) := by
    unfold Txt.slice
    rw [indices_clip]
  rw [e, beq_iff_eq.mp (slice_closes (x := x) (i := ((min i x.length : Nat) : Int)) (j := ((min j x.length : Nat) : Int)) ⟨Int.natCast_nonneg _, Int.ofNat_le.mpr (Nat.le_min.mpr ⟨Nat.le_trans (Nat.min_le_left _ _) h, Nat.min_le_right _ _⟩), by show _ ≤ ((x.cps.toList.length : Nat) : Int); simp [Str.length]; omega⟩)]
  have hl : x.length = x.cps.toList.length := by simp [Str.length]
  rw [hl]
  congr 2
  generalize x.cps.toList = l
  rw [show ((min i l.length : Nat) : Int).toNat = min i l.length by omega, show (((min j l.length : Nat) : Int) - ((min i l.length : Nat) : Int)).toNat = min j l.length - min i l.length by omega]
  by_cases hi : i ≤ l.length
  · rw [Nat.min_eq_left hi]
    by_cases hj : j ≤ l.length
    · rw [Nat.min_eq_left hj]
    · rw [Nat.min_eq_right (by omega), List.take_of_length_le (by simp), List.take_of_length_le (by simp; omega)]
  · rw [List.drop_eq_nil_of_le (by omega), List.drop_eq_nil_of_le (as := l) (i := i) (by omega)]
    simp
theorem slice_one (x : Str) (i : Nat) : Txt.slice x (some (i : Int)) (some ((i : Int) + 1)) = oc x.cps.toList[i]? := by
  have := slice_nat x i (i + 1) (by omega)
  rw [show (((i + 1 : Nat)) : Int) = (i : Int) + 1 by omega] at this
  rw [this, show i + 1 - i = 1 by omega]
  cases h : x.cps.toList[i]? with
  | none => rw [List.drop_eq_nil_of_le (List.getElem?_eq_none_iff.mp h)]; rfl
  | some y =>
    have hlt := (List.getElem?_eq_some_iff.mp h).1
    rw [List.drop_eq_getElem_cons hlt, (List.getElem?_eq_some_iff.mp h).2]
    rfl
end Mine
end
section
set_option maxRecDepth 20000
namespace Mine
noncomputable def aToken : Addr := 31
noncomputable def aScanner : Addr := 179
noncomputable def aErrorList : Addr := 221
noncomputable def aKeywords : Addr := 42
noncomputable def aIsLetter : Addr := 49
noncomputable def aIsDigit : Addr := 56
noncomputable def aIsHexDigit : Addr := 63
noncomputable def aDigitsValue : Addr := 70
noncomputable def aChar : Addr := 92
noncomputable def aTake : Addr := 99
noncomputable def aSkip : Addr := 106
noncomputable def aRemark : Addr := 113
noncomputable def aWord : Addr := 120
noncomputable def aNumeral : Addr := 127
noncomputable def aWhole : Addr := 134
noncomputable def aHexadecimal : Addr := 141
noncomputable def aCharacter : Addr := 148
noncomputable def aReal : Addr := 155
noncomputable def aSkipDigits : Addr := 162
noncomputable def aString : Addr := 169
noncomputable def aSymbol : Addr := 176
noncomputable def aMark : Addr := 204
noncomputable def aFirst : Addr := 211
noncomputable def aOk : Addr := 218
noncomputable def aPool : Addr := 232
noncomputable def aPick : Addr := 239
noncomputable def aWords : Addr := 246
noncomputable def aWrong : Addr := 253
noncomputable def aTok : Addr := 260
noncomputable def aGap : Addr := 267
-- [self, kind, value, place]
noncomputable def ir_Token___init__ : IS := (.seq (.setA (.loc 0) 4 (.loc 1))
  (.seq (.setA (.loc 0) 5 (.loc 2))
  (.seq (.setA (.loc 0) 2 (.loc 3))
  .skip)))
-- []
noncomputable def ir_keywords : IS := (.seq (.ret (.tup (.cons (.str "ARRAY") (.cons (.str "BEGIN") (.cons (.str "BY") (.cons (.str "CASE") (.cons (.str "CONST") (.cons (.str "DIV") (.cons (.str "DO") (.cons (.str "ELSE") (.cons (.str "ELSIF") (.cons (.str "END") (.cons (.str "FOR") (.cons (.str "IF") (.cons (.str "IMPORT") (.cons (.str "IN") (.cons (.str "IS") (.cons (.str "MOD") (.cons (.str "MODULE") (.cons (.str "NIL") (.cons (.str "OF") (.cons (.str "OR") (.cons (.str "POINTER") (.cons (.str "PROCEDURE") (.cons (.str "RECORD") (.cons (.str "REPEAT") (.cons (.str "RETURN") (.cons (.str "THEN") (.cons (.str "TO") (.cons (.str "TYPE") (.cons (.str "UNTIL") (.cons (.str "VAR") (.cons (.str "WHILE") .nil)))))))))))))))))))))))))))))))))
  .skip)
-- [char]
noncomputable def ir_is_letter : IS := (.seq (.ret (.or (.and (.cmp .LtE (.str "a") (.loc 0)) (.cmp .LtE (.loc 0) (.str "z"))) (.and (.cmp .LtE (.str "A") (.loc 0)) (.cmp .LtE (.loc 0) (.str "Z")))))
  .skip)
-- [char]
noncomputable def ir_is_digit : IS := (.seq (.ret (.and (.cmp .LtE (.str "0") (.loc 0)) (.cmp .LtE (.loc 0) (.str "9"))))
  .skip)
-- [char, is_digit]
noncomputable def ir_is_hex_digit : IS := (.seq (.ret (.or (.call aIsDigit (.cons (.loc 0) .nil)) (.and (.cmp .LtE (.str "A") (.loc 0)) (.cmp .LtE (.loc 0) (.str "F")))))
  .skip)
-- [digits, base, most, value, digit]
noncomputable def ir_digits_value : IS := (.seq (.set 3 (.int 0))
  (.seq (.forS 4 (.loc 0) (.seq (.set 3 (.bin .Add (.bin .Mult (.loc 3) (.loc 1)) (.find (.str "0123456789ABCDEF") (.loc 4))))
  (.seq (.ife (.cmp .Gt (.loc 3) (.loc 2)) (.seq (.ret (.bin .Add (.loc 2) (.int 1)))
  .skip) .skip)
  .skip)))
  (.seq (.ret (.loc 3))
  .skip)))
-- [self, source, errors, keywords]
noncomputable def ir_Scanner___init__ : IS := (.seq (.setA (.loc 0) 0 (.loc 1))
  (.seq (.setA (.loc 0) 1 (.loc 2))
  (.seq (.setA (.loc 0) 2 (.int 0))
  (.seq (.setA (.loc 0) 3 (.call aKeywords .nil))
  .skip))))
-- [self, ahead]
noncomputable def ir_Scanner_char : IS := (.seq (.ret (.slc (.attr 0 0) (.bin .Add (.attr 0 2) (.loc 1)) (.bin .Add (.bin .Add (.attr 0 2) (.loc 1)) (.int 1))))
  .skip)
-- [self, begun, char, symbol, Token, is_letter, is_digit, len]
noncomputable def ir_Scanner_take : IS := (.seq (.whl (.pl (.bool true)) (.seq (.exp (.meth aScanner aSkip (.loc 0) .nil))
  (.seq (.set 1 (.attr 0 2))
  (.seq (.set 2 (.meth aScanner aChar (.loc 0) .nil))
  (.seq (.ife (.cmp .Eq (.loc 2) (.str "")) (.seq (.ret (.call aToken (.cons (.str "eof") (.cons (.str "") (.cons (.loc 1) .nil)))))
  .skip) .skip)
  (.seq (.ife (.pl (.call aIsLetter (.cons (.loc 2) .nil))) (.seq (.ret (.meth aScanner aWord (.loc 0) (.cons (.loc 1) .nil)))
  .skip) .skip)
  (.seq (.ife (.pl (.call aIsDigit (.cons (.loc 2) .nil))) (.seq (.ret (.meth aScanner aNumeral (.loc 0) (.cons (.loc 1) .nil)))
  .skip) .skip)
  (.seq (.ife (.cmp .Eq (.loc 2) (.str "\"")) (.seq (.ret (.meth aScanner aString (.loc 0) (.cons (.loc 1) .nil)))
  .skip) .skip)
  (.seq (.set 3 (.meth aScanner aSymbol (.loc 0) .nil))
  (.seq (.ife (.cmp .NotEq (.loc 3) (.str "")) (.seq (.setA (.loc 0) 2 (.bin .Add (.loc 1) (.len (.loc 3))))
  (.seq (.ret (.call aToken (.cons (.loc 3) (.cons (.str "") (.cons (.loc 1) .nil)))))
  .skip)) .skip)
  (.seq (.exp (.meth aErrorList aMark (.attr 0 1) (.cons (.loc 1) (.cons (.str "bad_character") .nil))))
  (.seq (.setA (.loc 0) 2 (.bin .Add (.loc 1) (.int 1)))
  .skip))))))))))))
  .skip)
-- [self, char, ord]
noncomputable def ir_Scanner_skip : IS := (.seq (.whl (.pl (.bool true)) (.seq (.set 1 (.meth aScanner aChar (.loc 0) .nil))
  (.seq (.ife (.and (.cmp .Eq (.loc 1) (.str "(")) (.cmp .Eq (.meth aScanner aChar (.loc 0) (.cons (.int 1) .nil)) (.str "*"))) (.seq (.exp (.meth aScanner aRemark (.loc 0) .nil))
  .skip) (.seq (.ife (.and (.cmp .NotEq (.loc 1) (.str "")) (.cmp .LtE (.ord (.loc 1)) (.int 32))) (.seq (.setA (.loc 0) 2 (.bin .Add (.attr 0 2) (.int 1)))
  .skip) (.seq (.ret .none)
  .skip))
  .skip))
  .skip)))
  .skip)
-- [self, begun, depth, pair]
noncomputable def ir_Scanner_remark : IS := (.seq (.set 1 (.attr 0 2))
  (.seq (.set 2 (.int 1))
  (.seq (.setA (.loc 0) 2 (.bin .Add (.loc 1) (.int 2)))
  (.seq (.whl (.cmp .Gt (.loc 2) (.int 0)) (.seq (.set 3 (.bin .Add (.meth aScanner aChar (.loc 0) .nil) (.meth aScanner aChar (.loc 0) (.cons (.int 1) .nil))))
  (.seq (.ife (.cmp .Eq (.loc 3) (.str "")) (.seq (.exp (.meth aErrorList aMark (.attr 0 1) (.cons (.loc 1) (.cons (.str "unfinished_comment") .nil))))
  (.seq (.ret .none)
  .skip)) .skip)
  (.seq (.ife (.cmp .Eq (.loc 3) (.str "(*")) (.seq (.set 2 (.bin .Add (.loc 2) (.int 1)))
  (.seq (.setA (.loc 0) 2 (.bin .Add (.attr 0 2) (.int 2)))
  .skip)) (.seq (.ife (.cmp .Eq (.loc 3) (.str "*)")) (.seq (.set 2 (.bin .Sub (.loc 2) (.int 1)))
  (.seq (.setA (.loc 0) 2 (.bin .Add (.attr 0 2) (.int 2)))
  .skip)) (.seq (.setA (.loc 0) 2 (.bin .Add (.attr 0 2) (.int 1)))
  .skip))
  .skip))
  .skip))))
  .skip))))
-- [self, begun, end, name, is_letter, is_digit, Token]
noncomputable def ir_Scanner_word : IS := (.seq (.set 2 (.loc 1))
  (.seq (.whl (.or (.pl (.call aIsLetter (.cons (.slc (.attr 0 0) (.loc 2) (.bin .Add (.loc 2) (.int 1))) .nil))) (.pl (.call aIsDigit (.cons (.slc (.attr 0 0) (.loc 2) (.bin .Add (.loc 2) (.int 1))) .nil)))) (.seq (.set 2 (.bin .Add (.loc 2) (.int 1)))
  .skip))
  (.seq (.setA (.loc 0) 2 (.loc 2))
  (.seq (.set 3 (.slc (.attr 0 0) (.loc 1) (.loc 2)))
  (.seq (.ife (.cmp .In (.loc 3) (.attr 0 3)) (.seq (.ret (.call aToken (.cons (.loc 3) (.cons (.str "") (.cons (.loc 1) .nil)))))
  .skip) .skip)
  (.seq (.ret (.call aToken (.cons (.str "ident") (.cons (.loc 3) (.cons (.loc 1) .nil)))))
  .skip))))))
-- [self, begun, end, digits, ending, value, is_hex_digit, is_digit, digits_value, MOST_INTEGER]
noncomputable def ir_Scanner_numeral : IS := (.seq (.set 2 (.loc 1))
  (.seq (.whl (.pl (.call aIsHexDigit (.cons (.slc (.attr 0 0) (.loc 2) (.bin .Add (.loc 2) (.int 1))) .nil))) (.seq (.set 2 (.bin .Add (.loc 2) (.int 1)))
  .skip))
  (.seq (.set 3 (.slc (.attr 0 0) (.loc 1) (.loc 2)))
  (.seq (.set 4 (.slc (.attr 0 0) (.loc 2) (.bin .Add (.loc 2) (.int 1))))
  (.seq (.ife (.or (.cmp .Eq (.loc 4) (.str "H")) (.cmp .Eq (.loc 4) (.str "X"))) (.seq (.setA (.loc 0) 2 (.bin .Add (.loc 2) (.int 1)))
  (.seq (.ife (.cmp .Eq (.loc 4) (.str "H")) (.seq (.ret (.meth aScanner aHexadecimal (.loc 0) (.cons (.loc 1) (.cons (.loc 3) .nil))))
  .skip) .skip)
  (.seq (.ret (.meth aScanner aCharacter (.loc 0) (.cons (.loc 1) (.cons (.loc 3) .nil))))
  .skip))) .skip)
  (.seq (.set 2 (.loc 1))
  (.seq (.whl (.pl (.call aIsDigit (.cons (.slc (.attr 0 0) (.loc 2) (.bin .Add (.loc 2) (.int 1))) .nil))) (.seq (.set 2 (.bin .Add (.loc 2) (.int 1)))
  .skip))
  (.seq (.setA (.loc 0) 2 (.loc 2))
  (.seq (.ife (.and (.cmp .Eq (.meth aScanner aChar (.loc 0) .nil) (.str ".")) (.cmp .NotEq (.meth aScanner aChar (.loc 0) (.cons (.int 1) .nil)) (.str "."))) (.seq (.ret (.meth aScanner aReal (.loc 0) (.cons (.loc 1) .nil)))
  .skip) .skip)
  (.seq (.set 5 (.call aDigitsValue (.cons (.slc (.attr 0 0) (.loc 1) (.loc 2)) (.cons (.int 10) (.cons (.int 2147483647) .nil)))))
  (.seq (.ret (.meth aScanner aWhole (.loc 0) (.cons (.loc 1) (.cons (.loc 5) (.cons (.int 2147483647) .nil)))))
  .skip)))))))))))
-- [self, begun, value, most, Token]
noncomputable def ir_Scanner_whole : IS := (.seq (.ife (.cmp .Gt (.loc 2) (.loc 3)) (.seq (.exp (.meth aErrorList aMark (.attr 0 1) (.cons (.loc 1) (.cons (.str "number_too_large") .nil))))
  (.seq (.set 2 (.int 0))
  .skip)) .skip)
  (.seq (.ret (.call aToken (.cons (.str "int") (.cons (.loc 2) (.cons (.loc 1) .nil)))))
  .skip))
-- [self, begun, digits, token, digits_value, MOST_WORD, MOST_INTEGER]
noncomputable def ir_Scanner_hexadecimal : IS := (.seq (.set 3 (.meth aScanner aWhole (.loc 0) (.cons (.loc 1) (.cons (.call aDigitsValue (.cons (.loc 2) (.cons (.int 16) (.cons (.int 4294967295) .nil)))) (.cons (.int 4294967295) .nil)))))
  (.seq (.ife (.cmp .Gt (.attr 3 5) (.int 2147483647)) (.seq (.setA (.loc 3) 5 (.bin .Sub (.bin .Sub (.attr 3 5) (.int 4294967295)) (.int 1)))
  .skip) .skip)
  (.seq (.ret (.loc 3))
  .skip)))
-- [self, begun, digits, value, digits_value, Token, chr]
noncomputable def ir_Scanner_character : IS := (.seq (.set 3 (.call aDigitsValue (.cons (.loc 2) (.cons (.int 16) (.cons (.int 255) .nil)))))
  (.seq (.ife (.cmp .Gt (.loc 3) (.int 255)) (.seq (.exp (.meth aErrorList aMark (.attr 0 1) (.cons (.loc 1) (.cons (.str "bad_char") .nil))))
  (.seq (.set 3 (.int 0))
  .skip)) .skip)
  (.seq (.ret (.call aToken (.cons (.str "string") (.cons (.chr (.loc 3)) (.cons (.loc 1) .nil)))))
  .skip)))
-- [self, begun, sign, is_digit, Token]
noncomputable def ir_Scanner_real : IS := (.seq (.exp (.meth aErrorList aMark (.attr 0 1) (.cons (.loc 1) (.cons (.str "reals_left_out") .nil))))
  (.seq (.setA (.loc 0) 2 (.bin .Add (.attr 0 2) (.int 1)))
  (.seq (.exp (.meth aScanner aSkipDigits (.loc 0) .nil))
  (.seq (.ife (.cmp .Eq (.meth aScanner aChar (.loc 0) .nil) (.str "E")) (.seq (.set 2 (.int 0))
  (.seq (.ife (.or (.cmp .Eq (.meth aScanner aChar (.loc 0) (.cons (.int 1) .nil)) (.str "+")) (.cmp .Eq (.meth aScanner aChar (.loc 0) (.cons (.int 1) .nil)) (.str "-"))) (.seq (.set 2 (.int 1))
  .skip) .skip)
  (.seq (.ife (.pl (.call aIsDigit (.cons (.meth aScanner aChar (.loc 0) (.cons (.bin .Add (.int 1) (.loc 2)) .nil)) .nil))) (.seq (.setA (.loc 0) 2 (.bin .Add (.bin .Add (.attr 0 2) (.int 1)) (.loc 2)))
  (.seq (.exp (.meth aScanner aSkipDigits (.loc 0) .nil))
  .skip)) .skip)
  .skip))) .skip)
  (.seq (.ret (.call aToken (.cons (.str "int") (.cons (.int 0) (.cons (.loc 1) .nil)))))
  .skip)))))
-- [self, is_digit]
noncomputable def ir_Scanner_skip_digits : IS := (.seq (.whl (.pl (.call aIsDigit (.cons (.meth aScanner aChar (.loc 0) .nil) .nil))) (.seq (.setA (.loc 0) 2 (.bin .Add (.attr 0 2) (.int 1)))
  .skip))
  .skip)
-- [self, begun, chars, char, Token, ord]
noncomputable def ir_Scanner_string : IS := (.seq (.set 2 (.newL .nil))
  (.seq (.setA (.loc 0) 2 (.bin .Add (.loc 1) (.int 1)))
  (.seq (.whl (.cmp .NotEq (.meth aScanner aChar (.loc 0) .nil) (.str "\"")) (.seq (.set 3 (.meth aScanner aChar (.loc 0) .nil))
  (.seq (.ife (.or (.cmp .Eq (.loc 3) (.str "")) (.cmp .Eq (.loc 3) (.str "\n"))) (.seq (.exp (.meth aErrorList aMark (.attr 0 1) (.cons (.loc 1) (.cons (.str "unfinished_string") .nil))))
  (.seq (.ret (.call aToken (.cons (.str "string") (.cons (.join (.str "") (.loc 2)) (.cons (.loc 1) .nil)))))
  .skip)) .skip)
  (.seq (.ife (.cmp .Gt (.ord (.loc 3)) (.int 255)) (.seq (.exp (.meth aErrorList aMark (.attr 0 1) (.cons (.attr 0 2) (.cons (.str "bad_character") .nil))))
  .skip) (.seq (.exp (.app (.loc 2) (.loc 3)))
  .skip))
  (.seq (.setA (.loc 0) 2 (.bin .Add (.attr 0 2) (.int 1)))
  .skip)))))
  (.seq (.setA (.loc 0) 2 (.bin .Add (.attr 0 2) (.int 1)))
  (.seq (.ret (.call aToken (.cons (.str "string") (.cons (.join (.str "") (.loc 2)) (.cons (.loc 1) .nil)))))
  .skip)))))
-- [self, pair]
noncomputable def ir_Scanner_symbol : IS := (.seq (.set 1 (.bin .Add (.meth aScanner aChar (.loc 0) .nil) (.meth aScanner aChar (.loc 0) (.cons (.int 1) .nil))))
  (.seq (.ife (.cmp .In (.loc 1) (.tup (.cons (.str ":=") (.cons (.str "<=") (.cons (.str ">=") (.cons (.str "..") .nil)))))) (.seq (.ret (.loc 1))
  .skip) .skip)
  (.seq (.ife (.cmp .In (.meth aScanner aChar (.loc 0) .nil) (.str "+-*/~&.,;|([{^=#<>:)]}")) (.seq (.ret (.meth aScanner aChar (.loc 0) .nil))
  .skip) .skip)
  (.seq (.ret (.str ""))
  .skip))))
-- [self]
noncomputable def ir_ErrorList___init__ : IS := (.seq (.setA (.loc 0) 6 (.newL .nil))
  (.seq (.setA (.loc 0) 7 .newD)
  .skip))
-- [self, place, code]
noncomputable def ir_ErrorList_mark : IS := (.seq (.ife (.cmp .NotIn (.loc 1) (.attr 0 7)) (.seq (.setI (.attr 0 7) (.loc 1) (.loc 2))
  (.seq (.exp (.app (.attr 0 6) (.tup (.cons (.loc 1) (.cons (.loc 2) .nil)))))
  .skip)) .skip)
  .skip)
-- [self, len, sorted]
noncomputable def ir_ErrorList_first : IS := (.seq (.ife (.cmp .Eq (.len (.attr 0 6)) (.int 0)) (.seq (.ret .none)
  .skip) .skip)
  (.seq (.ret (.idx (.sorted (.attr 0 6)) (.int 0)))
  .skip))
-- [self, len]
noncomputable def ir_ErrorList_ok : IS := (.seq (.ret (.cmp .Eq (.len (.attr 0 6)) (.int 0)))
  .skip)
-- [script, figures, mix, cell, big, rest, step, int, abs, range, len]
noncomputable def ir__law_pool : IS := (.seq (.set 1 (.newL .nil))
  (.seq (.set 2 (.int 5))
  (.seq (.forL 3 (.upto 0 (.int 40)) (.seq (.set 4 (.toInt (.loc 3)))
  (.seq (.set 2 (.bin .Mod (.bin .Add (.bin .Mult (.loc 2) (.int 31)) (.loc 4)) (.int 1009)))
  (.seq (.set 5 (.abs (.loc 4)))
  (.seq (.forR 6 (.int 60) (.seq (.exp (.app (.loc 1) (.bin .Mod (.loc 5) (.int 840))))
  (.seq (.aug 5 .FloorDiv (.int 840))
  (.seq (.ife (.cmp .Eq (.loc 5) (.int 0)) (.seq .brk
  .skip) .skip)
  .skip))))
  (.seq (.ife (.cmp .Gt (.len (.loc 1)) (.int 400)) (.seq .brk
  .skip) .skip)
  .skip))))))
  (.seq (.ret (.newL (.cons (.loc 1) (.cons (.int 0) (.cons (.loc 2) .nil)))))
  .skip))))
-- [pool, bound_x, figure, len]
noncomputable def ir__law_pick : IS := (.seq (.ife (.cmp .Lt (.idx (.loc 0) (.int 1)) (.len (.idx (.loc 0) (.int 0)))) (.seq (.set 2 (.idx (.idx (.loc 0) (.int 0)) (.idx (.loc 0) (.int 1))))
  (.seq (.augI (.loc 0) (.int 1) .Add (.int 1))
  .skip)) (.seq (.ife (.cmp .Lt (.len (.idx (.loc 0) (.int 0))) (.int 3)) (.seq (.set 2 (.int 0))
  .skip) (.seq (.setI (.loc 0) (.int 2) (.bin .Mod (.bin .Add (.bin .Mult (.idx (.loc 0) (.int 2)) (.int 37)) (.int 11)) (.int 1009)))
  (.seq (.set 2 (.idx (.loc 0) (.int 2)))
  .skip)))
  .skip))
  (.seq (.ret (.bin .Mod (.loc 2) (.loc 1)))
  .skip))
-- [rows]
noncomputable def ir__law_words : IS := (.seq (.set 0 (.str "ARRAY BEGIN BY CASE CONST DIV DO ELSE ELSIF END FOR IF IMPORT IN IS MOD MODULE NIL OF OR POINTER PROCEDURE RECORD"))
  (.seq (.ret (.split (.bin .Add (.loc 0) (.str " REPEAT RETURN THEN TO TYPE UNTIL VAR WHILE")) (.str " ")))
  .skip))
-- [pool, kind, row, _law_pick, chr]
noncomputable def ir__law_wrong : IS := (.seq (.set 1 (.call aPick (.cons (.loc 0) (.cons (.int 10) .nil))))
  (.seq (.ife (.cmp .Lt (.loc 1) (.int 3)) (.seq (.ret (.tup (.cons (.ite (.cmp .Gt (.loc 1) (.int 0)) (.idx (.str "!$@'\\_?%`") (.call aPick (.cons (.loc 0) (.cons (.int 9) .nil)))) (.chr (.int 233))) (.cons .none (.cons .none (.cons (.lst (.cons (.tup (.cons (.str "bad_character") (.cons (.int 0) .nil))) .nil)) .nil))))))
  .skip) .skip)
  (.seq (.ife (.cmp .Eq (.loc 1) (.int 3)) (.seq (.ret (.tup (.cons (.idx (.lst (.cons (.str "100X") (.cons (.str "0FFFX") (.cons (.str "00100X") .nil)))) (.call aPick (.cons (.loc 0) (.cons (.int 3) .nil)))) (.cons (.str "string") (.cons (.chr (.int 0)) (.cons (.lst (.cons (.tup (.cons (.str "bad_char") (.cons (.int 0) .nil))) .nil)) .nil))))))
  .skip) .skip)
  (.seq (.ife (.cmp .Eq (.loc 1) (.int 4)) (.seq (.set 2 (.idx (.lst (.cons (.str "2147483648") (.cons (.str "100000000H") (.cons (.str "99999999999") (.cons (.str "0FFFFFFFFFH") .nil))))) (.call aPick (.cons (.loc 0) (.cons (.int 4) .nil)))))
  (.seq (.ret (.tup (.cons (.loc 2) (.cons (.str "int") (.cons (.int 0) (.cons (.lst (.cons (.tup (.cons (.str "number_too_large") (.cons (.int 0) .nil))) .nil)) .nil))))))
  .skip)) .skip)
  (.seq (.ife (.cmp .Lt (.loc 1) (.int 7)) (.seq (.set 2 (.idx (.lst (.cons (.str "1.5") (.cons (.str "0.") (.cons (.str "12.25E3") (.cons (.str "3.E-7") (.cons (.str "7.1E+08") .nil)))))) (.call aPick (.cons (.loc 0) (.cons (.int 5) .nil)))))
  (.seq (.ret (.tup (.cons (.loc 2) (.cons (.str "int") (.cons (.int 0) (.cons (.lst (.cons (.tup (.cons (.str "reals_left_out") (.cons (.int 0) .nil))) .nil)) .nil))))))
  .skip)) .skip)
  (.seq (.ife (.cmp .Eq (.loc 1) (.int 7)) (.seq (.ret (.tup (.cons (.bin .Add (.bin .Add (.bin .Add (.bin .Add (.str "\"a") (.chr (.int 256))) (.str "b")) (.chr (.int 1000))) (.str "\"")) (.cons (.str "string") (.cons (.str "ab") (.cons (.lst (.cons (.tup (.cons (.str "bad_character") (.cons (.int 2) .nil))) (.cons (.tup (.cons (.str "bad_character") (.cons (.int 4) .nil))) .nil))) .nil))))))
  .skip) .skip)
  (.seq (.ret (.tup (.cons (.str "\"a (* b\n") (.cons (.str "string") (.cons (.str "a (* b") (.cons (.lst (.cons (.tup (.cons (.str "unfinished_string") (.cons (.int 0) .nil))) .nil)) .nil))))))
  .skip)))))))
-- [pool, kind, name, words, row, value, number, figures, marks, _law_pick, _law_words, len, chr, _law_wrong]
noncomputable def ir__law_token : IS := (.seq (.set 1 (.call aPick (.cons (.loc 0) (.cons (.int 9) .nil))))
  (.seq (.ife (.cmp .Lt (.loc 1) (.int 2)) (.seq (.set 2 (.idx (.lst (.cons (.str "a") (.cons (.str "Zx") (.cons (.str "x9") (.cons (.str "TRUE") (.cons (.str "INTEGER") (.cons (.str "begin") (.cons (.str "E") (.cons (.str "ABCDEF") .nil))))))))) (.call aPick (.cons (.loc 0) (.cons (.int 8) .nil)))))
  (.seq (.ret (.tup (.cons (.loc 2) (.cons (.str "ident") (.cons (.loc 2) (.cons (.lst .nil) .nil))))))
  .skip)) .skip)
  (.seq (.ife (.cmp .Eq (.loc 1) (.int 2)) (.seq (.set 3 (.call aWords .nil))
  (.seq (.set 2 (.idx (.loc 3) (.call aPick (.cons (.loc 0) (.cons (.len (.loc 3)) .nil)))))
  (.seq (.ret (.tup (.cons (.loc 2) (.cons (.loc 2) (.cons (.str "") (.cons (.lst .nil) .nil))))))
  .skip))) .skip)
  (.seq (.ife (.cmp .Eq (.loc 1) (.int 3)) (.seq (.many [4, 5] (.idx (.lst (.cons (.tup (.cons (.str "0") (.cons (.int 0) .nil))) (.cons (.tup (.cons (.str "7") (.cons (.int 7) .nil))) (.cons (.tup (.cons (.str "0FFH") (.cons (.int 255) .nil))) (.cons (.tup (.cons (.str "12") (.cons (.int 12) .nil))) (.cons (.tup (.cons (.str "10H") (.cons (.int 16) .nil))) (.cons (.tup (.cons (.str "2147483647") (.cons (.int 2147483647) .nil))) (.cons (.tup (.cons (.str "0FFFFFFFFH") (.cons (.neg (.int 1)) .nil))) .nil)))))))) (.call aPick (.cons (.loc 0) (.cons (.int 7) .nil)))))
  (.seq (.ret (.tup (.cons (.loc 4) (.cons (.str "int") (.cons (.loc 5) (.cons (.lst .nil) .nil))))))
  .skip)) .skip)
  (.seq (.ife (.cmp .Eq (.loc 1) (.int 4)) (.seq (.set 5 (.idx (.lst (.cons (.str "") (.cons (.str "a") (.cons (.str "it's (* no *) remark") (.cons (.bin .Add (.str "\t!") (.chr (.int 255))) (.cons (.str "41X") .nil)))))) (.call aPick (.cons (.loc 0) (.cons (.int 5) .nil)))))
  (.seq (.ret (.tup (.cons (.bin .Add (.bin .Add (.str "\"") (.loc 5)) (.str "\"")) (.cons (.str "string") (.cons (.loc 5) (.cons (.lst .nil) .nil))))))
  .skip)) .skip)
  (.seq (.ife (.cmp .Eq (.loc 1) (.int 5)) (.seq (.set 6 (.call aPick (.cons (.loc 0) (.cons (.int 256) .nil))))
  (.seq (.set 7 (.str "0123456789ABCDEF"))
  (.seq (.ret (.tup (.cons (.bin .Add (.bin .Add (.bin .Add (.str "0") (.idx (.loc 7) (.bin .FloorDiv (.loc 6) (.int 16)))) (.idx (.loc 7) (.bin .Mod (.loc 6) (.int 16)))) (.str "X")) (.cons (.str "string") (.cons (.chr (.loc 6)) (.cons (.lst .nil) .nil))))))
  .skip))) .skip)
  (.seq (.ife (.and (.cmp .Eq (.loc 1) (.int 8)) (.cmp .Eq (.call aPick (.cons (.loc 0) (.cons (.int 2) .nil))) (.int 1))) (.seq (.ret (.call aWrong (.cons (.loc 0) .nil)))
  .skip) .skip)
  (.seq (.set 8 (.split (.str ":= <= >= .. + - * / ~ & . , ; | ( [ { ^ = # < > : ) ] }") (.str " ")))
  (.seq (.set 4 (.idx (.loc 8) (.call aPick (.cons (.loc 0) (.cons (.len (.loc 8)) .nil)))))
  (.seq (.ret (.tup (.cons (.loc 4) (.cons (.loc 4) (.cons (.str "") (.cons (.lst .nil) .nil))))))
  .skip))))))))))
-- [pool, must, row, count, step, _law_pick, range, chr]
noncomputable def ir__law_gap : IS := (.seq (.set 2 (.str ""))
  (.seq (.set 3 (.call aPick (.cons (.loc 0) (.cons (.int 3) .nil))))
  (.seq (.ife (.and (.pl (.loc 1)) (.cmp .Eq (.loc 3) (.int 0))) (.seq (.set 2 (.idx (.lst (.cons (.str " ") (.cons (.str "\n") (.cons (.str "\t") .nil)))) (.call aPick (.cons (.loc 0) (.cons (.int 3) .nil)))))
  .skip) .skip)
  (.seq (.forR 4 (.loc 3) (.seq (.aug 2 .Add (.idx (.lst (.cons (.str " ") (.cons (.str "\r\n") (.cons (.str "(* a *)") (.cons (.str "(*(*) b *)*)") (.cons (.str "(* (* c *) d \" *)") (.cons (.chr (.int 1)) .nil))))))) (.call aPick (.cons (.loc 0) (.cons (.int 6) .nil)))))
  .skip))
  (.seq (.ret (.loc 2))
  .skip)))))
-- [script, pool, wide, due, faults, last, step, row, kind, value, marks, wordy, must, errors, scanner, wanted, token, first, _law_pool, range, _law_pick, _law_token, chr, _law_gap, len, ErrorList, Scanner, sorted]
noncomputable def ir_law : IS := (.seq (.set 1 (.call aPool (.cons (.loc 0) .nil)))
  (.seq (.setC 0 (.str ""))
  (.seq (.set 3 (.newL .nil))
  (.seq (.set 4 (.newL .nil))
  (.seq (.set 5 (.str ""))
  (.seq (.forR 6 (.bin .Add (.int 1) (.call aPick (.cons (.loc 1) (.cons (.int 9) .nil)))) (.seq (.many [7, 8, 9, 10] (.call aTok (.cons (.loc 1) .nil)))
  (.seq (.set 11 (.and (.isalnum (.idx (.loc 7) (.int 0))) (.cmp .Lt (.idx (.loc 7) (.int 0)) (.chr (.int 128)))))
  (.seq (.set 12 (.or (.and (.cmp .Eq (.loc 5) (.str "word")) (.or (.loc 11) (.cmp .Eq (.idx (.loc 7) (.int 0)) (.str ".")))) (.and (.cmp .Eq (.loc 5) (.str "mark")) (.cmp .Eq (.loc 8) (.loc 7)))))
  (.seq (.augC 0 .Add (.call aGap (.cons (.loc 1) (.cons (.loc 12) .nil))))
  (.seq (.ext 4 (.prs 0 10))
  (.seq (.ife (.nn (.loc 8)) (.seq (.exp (.app (.loc 3) (.tup (.cons (.loc 8) (.cons (.loc 9) (.cons (.len (.cel 0)) .nil))))))
  .skip) .skip)
  (.seq (.augC 0 .Add (.loc 7))
  (.seq (.set 5 (.ite (.pl (.loc 11)) (.str "word") (.ite (.cmp .Eq (.loc 8) (.loc 7)) (.str "mark") (.str ""))))
  .skip)))))))))
  (.seq (.augC 0 .Add (.call aGap (.cons (.loc 1) (.cons (.bool false) .nil))))
  (.seq (.ife (.cmp .Eq (.call aPick (.cons (.loc 1) (.cons (.int 4) .nil))) (.int 3)) (.seq (.exp (.app (.loc 4) (.tup (.cons (.bin .Add (.len (.cel 0)) (.int 1)) (.cons (.str "unfinished_comment") .nil)))))
  (.seq (.augC 0 .Add (.str " (* (* a *) * ) ("))
  .skip)) .skip)
  (.seq (.set 13 (.call aErrorList .nil))
  (.seq (.set 14 (.call aScanner (.cons (.cel 0) (.cons (.loc 13) .nil))))
  (.seq (.forL 15 (.ladd (.loc 3) (.lmul (.cons (.tup (.cons (.str "eof") (.cons (.str "") (.cons (.len (.cel 0)) .nil)))) .nil) 2)) (.seq (.set 16 (.meth aScanner aTake (.loc 14) .nil))
  (.seq (.ife (.cmp .NotEq (.tup (.cons (.attr 16 4) (.cons (.attr 16 5) (.cons (.attr 16 2) .nil)))) (.loc 15)) (.seq (.ret (.bool false))
  .skip) .skip)
  .skip)))
  (.seq (.set 17 (.ite (.cmp .NotEq (.loc 4) (.lst .nil)) (.idx (.sorted (.loc 4)) (.int 0)) .none))
  (.seq (.ret (.and (.cmp .Eq (.attr 13 6) (.loc 4)) (.and (.cmp .Eq (.meth aErrorList aFirst (.loc 13) .nil) (.loc 17)) (.cmp .Eq (.meth aErrorList aOk (.loc 13) .nil) (.cmp .Eq (.loc 4) (.lst .nil))))))
  .skip)))))))))))))
end Mine
end
section
set_option maxRecDepth 100000
namespace Mine
noncomputable def de (P : Params) (k : Str) (t : Tok) (v : Value) : DictEntry := ⟨PyData.keyHash P k, .str k t, v⟩
noncomputable def dcto (es : List DictEntry) (n : Nat) : Obj := { cls := .type "dict", data := .dict es.toArray n }
noncomputable def tpo (vs : List Value) (n : Nat) : Obj := { cls := .type "tuple", data := .seq vs.toArray n }
noncomputable def cdo (vs : List Value) : Obj := { cls := .type "code", data := .fields vs.toArray }
noncomputable def clo (name : Str) (a ns : Addr) (sl : List (Option Value)) : Obj := { cls := .type "type", data := .cls { name := name, bases := [.type "object"], mro := [.ref a, .type "object"], ns := ns, qualname := name }, slots := sl.toArray }
noncomputable def fno (st : Stmt) (q : Str) (dV kV pm cd : Value) : Obj := match st with
  | .FunctionDef n params body _ _ _ scope _ _ _ => { cls := .type "function", data := .func { name := n, qualname := q, params := params, body := .stmts body, scope := scope, globals := mainGlobals, closure := [], defaults := dV, kwdefaults := kV, pyModule := pm, code := cd } }
  | _ => { cls := .none }
noncomputable def prm : Stmt → Arguments
  | .FunctionDef _ p _ _ _ _ _ _ _ _ => p
  | _ => default
noncomputable def bdy : Stmt → List Stmt
  | .FunctionDef _ _ b _ _ _ _ _ _ _ => b
  | _ => []
noncomputable def scp : Stmt → Scope
  | .FunctionDef _ _ _ _ _ _ s _ _ _ => s
  | _ => default
noncomputable def nmo : Stmt → Str
  | .FunctionDef n _ _ _ _ _ _ _ _ _ => n
  | _ => default
noncomputable def isDef : Stmt → Bool
  | .FunctionDef .. => true
  | _ => false
theorem fno_eq {st : Stmt} (h : isDef st = true) (q : Str) (dV kV pm cd : Value) : fno st q dV kV pm cd = ⟨.type "function", none, .func (fnOf (nmo st) q (prm st) (bdy st) (scp st) dV kV .none pm none cd .none), #[]⟩ := by
  cases st <;> first | rfl | cases h
noncomputable def scpOk (names : List Str) (sc : Scope) (k e : Nat) : Bool :=
  decide (sc.names.take names.length = names.map fun x => (x, NameKind.local)) && decide ((sc.names.map (·.1)).Nodup) && !sc.isCoroutine && !sc.isGenerator && decide (sc.kind = .function) && sc.names.all (fun x => decide (x.2 ≠ .cell)) && decide (names.length = k) && decide (sc.names.length = k + e)
theorem fnOk_of {G : Gl} {t : Tab} {f : Addr} {k e : Nat} {das : List AV} {ir : IS} {st : Stmt} {q : Str} {dV pm cd : Value} (names : List Str) (hl : G.K.lookup f = some (fno st q dV .none pm cd)) (hd : isDef st = true) (dvs : List Value) (hdas : ∀ hb ρ N, RVs hb ρ N das dvs)
    (hb : ∀ (s : Shared), G.K.In s.heap → ∀ vs : List Value, vs.length + das.length = names.length → BindsTo s (fnOf (nmo st) q (prm st) (bdy st) (scp st) dV .none .none pm none cd .none) ⟨vs, []⟩ (names.zip (vs ++ dvs)))
    (hc : codeIn G.K cd q = true) (hs : scpOk names (scp st) k e = true) (hi : cB t (scp st).names 60 (bdy st) = some ir) : FnOk G t f k e das ir := by
  unfold scpOk at hs
  simp only [Bool.and_eq_true, decide_eq_true_eq, Bool.not_eq_true', List.all_eq_true] at hs
  obtain ⟨⟨⟨⟨⟨⟨⟨h1, h2⟩, h3⟩, h4⟩, h5⟩, h6⟩, h7⟩, h8⟩ := hs
  exact ⟨names, bdy st, scp st, q, cd, ⟨⟨_, _, _, _, _, _, _, _, _, _, _, dvs, by rw [hl, fno_eq hd], hdas, hb⟩, hc, h1, h2, h3, h4, h5, h6⟩, hi, h7, h8⟩
section
variable {K : Frag} {fd : FuncData} {names : List Str}
theorem bnd0 (hn : names.length = 0) (h : bindArgs fd ⟨[], []⟩ = pure (names.zip [])) : ∀ (s : Shared), K.In s.heap → ∀ vs : List Value, vs.length + ([] : List AV).length = names.length → BindsTo s fd ⟨vs, []⟩ (names.zip (vs ++ [])) := by
  intro s _ vs hv
  match vs, hv with
  | [], _ => exact .of_eq h
  | _ :: _, hv => simp [hn] at hv
theorem bnd1 (hn : names.length = 1) (h : ∀ a, bindArgs fd ⟨[a], []⟩ = pure (names.zip [a])) : ∀ (s : Shared), K.In s.heap → ∀ vs : List Value, vs.length + ([] : List AV).length = names.length → BindsTo s fd ⟨vs, []⟩ (names.zip (vs ++ [])) := by
  intro s _ vs hv
  match vs, hv with
  | [a], _ => exact .of_eq (h a)
  | [], hv => simp [hn] at hv
  | _ :: _ :: _, hv => simp [hn] at hv
theorem bnd2 (hn : names.length = 2) (h : ∀ a b, bindArgs fd ⟨[a, b], []⟩ = pure (names.zip [a, b])) : ∀ (s : Shared), K.In s.heap → ∀ vs : List Value, vs.length + ([] : List AV).length = names.length → BindsTo s fd ⟨vs, []⟩ (names.zip (vs ++ [])) := by
  intro s _ vs hv
  match vs, hv with
  | [a, b], _ => exact .of_eq (h a b)
  | [], hv => simp [hn] at hv
  | [_], hv => simp [hn] at hv
  | _ :: _ :: _ :: _, hv => simp [hn] at hv
theorem bnd3 (hn : names.length = 3) (h : ∀ a b d, bindArgs fd ⟨[a, b, d], []⟩ = pure (names.zip [a, b, d])) : ∀ (s : Shared), K.In s.heap → ∀ vs : List Value, vs.length + ([] : List AV).length = names.length → BindsTo s fd ⟨vs, []⟩ (names.zip (vs ++ [])) := by
  intro s _ vs hv
  match vs, hv with
  | [a, b, d], _ => exact .of_eq (h a b d)
  | [], hv => simp [hn] at hv
  | [_], hv => simp [hn] at hv
  | [_, _], hv => simp [hn] at hv
  | _ :: _ :: _ :: _ :: _, hv => simp [hn] at hv
theorem bnd4 (hn : names.length = 4) (h : ∀ a b d e, bindArgs fd ⟨[a, b, d, e], []⟩ = pure (names.zip [a, b, d, e])) : ∀ (s : Shared), K.In s.heap → ∀ vs : List Value, vs.length + ([] : List AV).length = names.length → BindsTo s fd ⟨vs, []⟩ (names.zip (vs ++ [])) := by
  intro s _ vs hv
  match vs, hv with
  | [a, b, d, e], _ => exact .of_eq (h a b d e)
  | [], hv => simp [hn] at hv
  | [_], hv => simp [hn] at hv
  | [_, _], hv => simp [hn] at hv
  | [_, _, _], hv => simp [hn] at hv
  | _ :: _ :: _ :: _ :: _ :: _, hv => simp [hn] at hv
theorem bndD {x : AV} {xv : Value} (hn : names.length = 2) (h : ∀ a S, peek K S (bindArgs fd ⟨[a], []⟩) = some (names.zip [a, xv])) : ∀ (s : Shared), K.In s.heap → ∀ vs : List Value, vs.length + ([x] : List AV).length = names.length → BindsTo s fd ⟨vs, []⟩ (names.zip (vs ++ [xv])) := by
  intro s X vs hv
  match vs, hv with
  | [a], _ => exact kp_binds X (h a)
  | [], hv => simp [hn] at hv
  | _ :: _ :: _, hv => simp [hn] at hv
theorem bndE (hn : names.length = 2) (h : ∀ a b S, peek K S (bindArgs fd ⟨[a, b], []⟩) = some (names.zip [a, b])) : ∀ (s : Shared), K.In s.heap → ∀ vs : List Value, vs.length + ([] : List AV).length = names.length → BindsTo s fd ⟨vs, []⟩ (names.zip (vs ++ [])) := by
  intro s X vs hv
  match vs, hv with
  | [a, b], _ => exact kp_binds X (h a b)
  | [], hv => simp [hn] at hv
  | [_], hv => simp [hn] at hv
  | _ :: _ :: _ :: _, hv => simp [hn] at hv
end
end Mine
end
section
set_option maxRecDepth 100000
namespace Mine
noncomputable def pw : Program := PySem.Challenge.pw_nu0329_01
noncomputable def stAt (i : Nat) : Stmt := (pw.main.body[i]?).getD (.Pass default)
noncomputable def inAt (i j : Nat) : Stmt := match stAt i with
  | .ClassDef _ _ _ body _ _ _ _ _ _ _ => (body[j]?).getD (.Pass default)
  | s => s
noncomputable def kfA : List Addr := [3, 27, 28, 30, 31, 41, 42, 48, 49, 55, 56, 62, 63, 69, 70, 83, 84, 85, 91, 92, 98, 99, 105, 106, 112, 113, 119, 120, 126, 127, 133, 134, 140, 141, 147, 148, 154, 155, 161, 162, 168, 169, 175, 176, 178, 179, 196, 197, 203, 204, 210, 211, 217, 218, 220, 221, 231, 232, 238, 239, 245, 246, 252, 253, 259, 260, 266, 267, 271, 272]
noncomputable def kf (P : Params) : Frag := [
  (3, dcto [de P "__name__" 165 (.str "law_nu0329_01" 474), de P "__doc__" 166 .none, de P "__package__" 167 .none, de P "__loader__" 168 (.builtin "__main__.__loader__#opaque"), de P "__spec__" 169 .none, de P "__annotations__" 170 (.ref 6), de P "__builtins__" 171 (.ref 4), de P "__file__" 173 (.str "/claim/cut.py" 172), de P "__cached__" 174 .none, de P "MOST_INTEGER" 190 (.int 2147483647 189), de P "MOST_WORD" 192 (.int 4294967295 191), de P "Token" 225 (.ref 31), de P "keywords" 231 (.ref 42), de P "is_letter" 238 (.ref 49), de P "is_digit" 245 (.ref 56), de P "is_hex_digit" 252 (.ref 63), de P "digits_value" 263 (.ref 70), de P "Scanner" 419 (.ref 179), de P "ErrorList" 473 (.ref 221), de P "_law_pool" 488 (.ref 232), de P "_law_pick" 497 (.ref 239), de P "_law_words" 504 (.ref 246), de P "_law_wrong" 513 (.ref 253), de P "_law_token" 528 (.ref 260), de P "_law_gap" 539 (.ref 267), de P "law" 545 (.ref 272)] 26),
  (27, cdo [(.str "__init__" 205), (.str "Token.__init__" 206), (.str "/claim/cut.py" 207), (.int 6 0), (.int 4 0), (.int 0 0), (.int 0 0), (.int 3 0), (.ref 22), (.bool true), (.int 181 0), (.ref 23), .none, (.ref 24), (.ref 25), (.ref 26), (.int 212 0), (.int 6 0), (.str "/claim/cut.py" 213)]),
  (28, fno (inAt 3 0) "Token.__init__" .none .none (.str "moduleyard.scanner" 187) (.ref 27)),
  (30, dcto [de P "__module__" 200 (.str "moduleyard.scanner" 187), de P "__firstlineno__" 204 (.int 4 203), de P "__init__" 214 (.ref 28), de P "__static_attributes__" 218 (.ref 29), de P "__dict__" 220 (.ref 32), de P "__weakref__" 222 (.ref 33), de P "__doc__" 223 .none] 4),
  (31, clo "Token" 31 30 [none, none, some (.str "Token" 193), some (.str "Token" 201), some (.builtin "object.__new__"), some (.bool true)]),
  (41, cdo [(.str "keywords" 226), (.str "keywords" 227), (.str "/claim/cut.py" 228), (.int 10 0), (.int 0 0), (.int 0 0), (.int 0 0), (.int 3 0), (.ref 36), (.bool true), (.int 181 0), (.ref 37), .none, (.ref 38), (.ref 39), (.ref 40), (.int 229 0), (.int 10 0), (.str "/claim/cut.py" 230)]),
  (42, fno (stAt 4) "keywords" .none .none (.str "moduleyard.scanner" 187) (.ref 41)),
  (48, cdo [(.str "is_letter" 232), (.str "is_letter" 233), (.str "/claim/cut.py" 234), (.int 12 0), (.int 1 0), (.int 0 0), (.int 0 0), (.int 3 0), (.ref 43), (.bool true), (.int 181 0), (.ref 44), .none, (.ref 45), (.ref 46), (.ref 47), (.int 236 0), (.int 12 0), (.str "/claim/cut.py" 237)]),
  (49, fno (stAt 5) "is_letter" .none .none (.str "moduleyard.scanner" 187) (.ref 48)),
  (55, cdo [(.str "is_digit" 239), (.str "is_digit" 240), (.str "/claim/cut.py" 241), (.int 14 0), (.int 1 0), (.int 0 0), (.int 0 0), (.int 3 0), (.ref 50), (.bool true), (.int 181 0), (.ref 51), .none, (.ref 52), (.ref 53), (.ref 54), (.int 243 0), (.int 14 0), (.str "/claim/cut.py" 244)]),
  (56, fno (stAt 6) "is_digit" .none .none (.str "moduleyard.scanner" 187) (.ref 55)),
  (62, cdo [(.str "is_hex_digit" 246), (.str "is_hex_digit" 247), (.str "/claim/cut.py" 248), (.int 16 0), (.int 1 0), (.int 0 0), (.int 0 0), (.int 3 0), (.ref 57), (.bool true), (.int 181 0), (.ref 58), .none, (.ref 59), (.ref 60), (.ref 61), (.int 250 0), (.int 16 0), (.str "/claim/cut.py" 251)]),
  (63, fno (stAt 7) "is_hex_digit" .none .none (.str "moduleyard.scanner" 187) (.ref 62)),
  (69, cdo [(.str "digits_value" 253), (.str "digits_value" 254), (.str "/claim/cut.py" 255), (.int 18 0), (.int 3 0), (.int 0 0), (.int 0 0), (.int 3 0), (.ref 64), (.bool true), (.int 181 0), (.ref 65), .none, (.ref 66), (.ref 67), (.ref 68), (.int 261 0), (.int 18 0), (.str "/claim/cut.py" 262)]),
  (70, fno (stAt 8) "digits_value" .none .none (.str "moduleyard.scanner" 187) (.ref 69)),
  (83, cdo [(.str "__init__" 276), (.str "Scanner.__init__" 277), (.str "/claim/cut.py" 278), (.int 27 0), (.int 3 0), (.int 0 0), (.int 0 0), (.int 3 0), (.ref 78), (.bool true), (.int 181 0), (.ref 79), .none, (.ref 80), (.ref 81), (.ref 82), (.int 282 0), (.int 27 0), (.str "/claim/cut.py" 283)]),
  (84, fno (inAt 9 0) "Scanner.__init__" .none .none (.str "moduleyard.scanner" 187) (.ref 83)),
  (85, tpo [(.int 0 285)] 0),
  (91, cdo [(.str "char" 286), (.str "Scanner.char" 287), (.str "/claim/cut.py" 288), (.int 33 0), (.int 2 0), (.int 0 0), (.int 0 0), (.int 3 0), (.ref 86), (.bool true), (.int 181 0), (.ref 87), .none, (.ref 88), (.ref 89), (.ref 90), (.int 291 0), (.int 33 0), (.str "/claim/cut.py" 292)]),
  (92, fno (inAt 9 1) "Scanner.char" (.ref 85) .none (.str "moduleyard.scanner" 187) (.ref 91)),
  (98, cdo [(.str "take" 294), (.str "Scanner.take" 295), (.str "/claim/cut.py" 296), (.int 36 0), (.int 1 0), (.int 0 0), (.int 0 0), (.int 3 0), (.ref 93), (.bool true), (.int 181 0), (.ref 94), .none, (.ref 95), (.ref 96), (.ref 97), (.int 301 0), (.int 36 0), (.str "/claim/cut.py" 302)]),
  (99, fno (inAt 9 2) "Scanner.take" .none .none (.str "moduleyard.scanner" 187) (.ref 98)),
  (105, cdo [(.str "skip" 304), (.str "Scanner.skip" 305), (.str "/claim/cut.py" 306), (.int 56 0), (.int 1 0), (.int 0 0), (.int 0 0), (.int 3 0), (.ref 100), (.bool true), (.int 181 0), (.ref 101), .none, (.ref 102), (.ref 103), (.ref 104), (.int 309 0), (.int 56 0), (.str "/claim/cut.py" 310)]),
  (106, fno (inAt 9 3) "Scanner.skip" .none .none (.str "moduleyard.scanner" 187) (.ref 105)),
  (112, cdo [(.str "remark" 312), (.str "Scanner.remark" 313), (.str "/claim/cut.py" 314), (.int 66 0), (.int 1 0), (.int 0 0), (.int 0 0), (.int 3 0), (.ref 107), (.bool true), (.int 181 0), (.ref 108), .none, (.ref 109), (.ref 110), (.ref 111), (.int 319 0), (.int 66 0), (.str "/claim/cut.py" 320)]),
  (113, fno (inAt 9 4) "Scanner.remark" .none .none (.str "moduleyard.scanner" 187) (.ref 112)),
  (119, cdo [(.str "word" 322), (.str "Scanner.word" 323), (.str "/claim/cut.py" 324), (.int 84 0), (.int 2 0), (.int 0 0), (.int 0 0), (.int 3 0), (.ref 114), (.bool true), (.int 181 0), (.ref 115), .none, (.ref 116), (.ref 117), (.ref 118), (.int 329 0), (.int 84 0), (.str "/claim/cut.py" 330)]),
  (120, fno (inAt 9 5) "Scanner.word" .none .none (.str "moduleyard.scanner" 187) (.ref 119)),
  (126, cdo [(.str "numeral" 332), (.str "Scanner.numeral" 333), (.str "/claim/cut.py" 334), (.int 94 0), (.int 2 0), (.int 0 0), (.int 0 0), (.int 3 0), (.ref 121), (.bool true), (.int 181 0), (.ref 122), .none, (.ref 123), (.ref 124), (.ref 125), (.int 341 0), (.int 94 0), (.str "/claim/cut.py" 342)]),
  (127, fno (inAt 9 6) "Scanner.numeral" .none .none (.str "moduleyard.scanner" 187) (.ref 126)),
  (133, cdo [(.str "whole" 344), (.str "Scanner.whole" 345), (.str "/claim/cut.py" 346), (.int 114 0), (.int 4 0), (.int 0 0), (.int 0 0), (.int 3 0), (.ref 128), (.bool true), (.int 181 0), (.ref 129), .none, (.ref 130), (.ref 131), (.ref 132), (.int 351 0), (.int 114 0), (.str "/claim/cut.py" 352)]),
  (134, fno (inAt 9 7) "Scanner.whole" .none .none (.str "moduleyard.scanner" 187) (.ref 133)),
  (140, cdo [(.str "hexadecimal" 354), (.str "Scanner.hexadecimal" 355), (.str "/claim/cut.py" 356), (.int 120 0), (.int 3 0), (.int 0 0), (.int 0 0), (.int 3 0), (.ref 135), (.bool true), (.int 181 0), (.ref 136), .none, (.ref 137), (.ref 138), (.ref 139), (.int 361 0), (.int 120 0), (.str "/claim/cut.py" 362)]),
  (141, fno (inAt 9 8) "Scanner.hexadecimal" .none .none (.str "moduleyard.scanner" 187) (.ref 140)),
  (147, cdo [(.str "character" 364), (.str "Scanner.character" 365), (.str "/claim/cut.py" 366), (.int 126 0), (.int 3 0), (.int 0 0), (.int 0 0), (.int 3 0), (.ref 142), (.bool true), (.int 181 0), (.ref 143), .none, (.ref 144), (.ref 145), (.ref 146), (.int 371 0), (.int 126 0), (.str "/claim/cut.py" 372)]),
  (148, fno (inAt 9 9) "Scanner.character" .none .none (.str "moduleyard.scanner" 187) (.ref 147)),
  (154, cdo [(.str "real" 374), (.str "Scanner.real" 375), (.str "/claim/cut.py" 376), (.int 133 0), (.int 2 0), (.int 0 0), (.int 0 0), (.int 3 0), (.ref 149), (.bool true), (.int 181 0), (.ref 150), .none, (.ref 151), (.ref 152), (.ref 153), (.int 380 0), (.int 133 0), (.str "/claim/cut.py" 381)]),
  (155, fno (inAt 9 10) "Scanner.real" .none .none (.str "moduleyard.scanner" 187) (.ref 154)),
  (161, cdo [(.str "skip_digits" 383), (.str "Scanner.skip_digits" 384), (.str "/claim/cut.py" 385), (.int 146 0), (.int 1 0), (.int 0 0), (.int 0 0), (.int 3 0), (.ref 156), (.bool true), (.int 181 0), (.ref 157), .none, (.ref 158), (.ref 159), (.ref 160), (.int 387 0), (.int 146 0), (.str "/claim/cut.py" 388)]),
  (162, fno (inAt 9 11) "Scanner.skip_digits" .none .none (.str "moduleyard.scanner" 187) (.ref 161)),
  (168, cdo [(.str "string" 390), (.str "Scanner.string" 391), (.str "/claim/cut.py" 392), (.int 150 0), (.int 2 0), (.int 0 0), (.int 0 0), (.int 3 0), (.ref 163), (.bool true), (.int 181 0), (.ref 164), .none, (.ref 165), (.ref 166), (.ref 167), (.int 397 0), (.int 150 0), (.str "/claim/cut.py" 398)]),
  (169, fno (inAt 9 12) "Scanner.string" .none .none (.str "moduleyard.scanner" 187) (.ref 168)),
  (175, cdo [(.str "symbol" 400), (.str "Scanner.symbol" 401), (.str "/claim/cut.py" 402), (.int 166 0), (.int 1 0), (.int 0 0), (.int 0 0), (.int 3 0), (.ref 170), (.bool true), (.int 181 0), (.ref 171), .none, (.ref 172), (.ref 173), (.ref 174), (.int 405 0), (.int 166 0), (.str "/claim/cut.py" 406)]),
  (176, fno (inAt 9 13) "Scanner.symbol" .none .none (.str "moduleyard.scanner" 187) (.ref 175)),
  (178, dcto [de P "__module__" 271 (.str "moduleyard.scanner" 187), de P "__firstlineno__" 275 (.int 25 274), de P "__init__" 284 (.ref 84), de P "char" 293 (.ref 92), de P "take" 303 (.ref 99), de P "skip" 311 (.ref 106), de P "remark" 321 (.ref 113), de P "word" 331 (.ref 120), de P "numeral" 343 (.ref 127), de P "whole" 353 (.ref 134), de P "hexadecimal" 363 (.ref 141), de P "character" 373 (.ref 148), de P "real" 382 (.ref 155), de P "skip_digits" 389 (.ref 162), de P "string" 399 (.ref 169), de P "symbol" 407 (.ref 176), de P "__static_attributes__" 412 (.ref 177), de P "__dict__" 414 (.ref 180), de P "__weakref__" 416 (.ref 181), de P "__doc__" 417 .none] 4),
  (179, clo "Scanner" 179 178 [none, none, some (.str "Scanner" 264), some (.str "Scanner" 272), some (.builtin "object.__new__"), some (.bool true)]),
  (196, cdo [(.str "__init__" 434), (.str "ErrorList.__init__" 435), (.str "/claim/cut.py" 436), (.int 176 0), (.int 1 0), (.int 0 0), (.int 0 0), (.int 3 0), (.ref 191), (.bool true), (.int 181 0), (.ref 192), .none, (.ref 193), (.ref 194), (.ref 195), (.int 438 0), (.int 176 0), (.str "/claim/cut.py" 439)]),
  (197, fno (inAt 11 0) "ErrorList.__init__" .none .none (.str "moduleyard.errors" 420) (.ref 196)),
  (203, cdo [(.str "mark" 441), (.str "ErrorList.mark" 442), (.str "/claim/cut.py" 443), (.int 180 0), (.int 3 0), (.int 0 0), (.int 0 0), (.int 3 0), (.ref 198), (.bool true), (.int 181 0), (.ref 199), .none, (.ref 200), (.ref 201), (.ref 202), (.int 447 0), (.int 180 0), (.str "/claim/cut.py" 448)]),
  (204, fno (inAt 11 1) "ErrorList.mark" .none .none (.str "moduleyard.errors" 420) (.ref 203)),
  (210, cdo [(.str "first" 450), (.str "ErrorList.first" 451), (.str "/claim/cut.py" 452), (.int 185 0), (.int 1 0), (.int 0 0), (.int 0 0), (.int 3 0), (.ref 205), (.bool true), (.int 181 0), (.ref 206), .none, (.ref 207), (.ref 208), (.ref 209), (.int 454 0), (.int 185 0), (.str "/claim/cut.py" 455)]),
  (211, fno (inAt 11 2) "ErrorList.first" .none .none (.str "moduleyard.errors" 420) (.ref 210)),
  (217, cdo [(.str "ok" 457), (.str "ErrorList.ok" 458), (.str "/claim/cut.py" 459), (.int 190 0), (.int 1 0), (.int 0 0), (.int 0 0), (.int 3 0), (.ref 212), (.bool true), (.int 181 0), (.ref 213), .none, (.ref 214), (.ref 215), (.ref 216), (.int 461 0), (.int 190 0), (.str "/claim/cut.py" 462)]),
  (218, fno (inAt 11 3) "ErrorList.ok" .none .none (.str "moduleyard.errors" 420) (.ref 217)),
  (220, dcto [de P "__module__" 429 (.str "moduleyard.errors" 420), de P "__firstlineno__" 433 (.int 174 432), de P "__init__" 440 (.ref 197), de P "mark" 449 (.ref 204), de P "first" 456 (.ref 211), de P "ok" 463 (.ref 218), de P "__static_attributes__" 466 (.ref 219), de P "__dict__" 468 (.ref 222), de P "__weakref__" 470 (.ref 223), de P "__doc__" 471 .none] 4),
  (221, clo "ErrorList" 221 220 [none, none, some (.str "ErrorList" 422), some (.str "ErrorList" 430), some (.builtin "object.__new__"), some (.bool true)]),
  (231, cdo [(.str "_law_pool" 476), (.str "_law_pool" 477), (.str "/claim/cut.py" 478), (.int 193 0), (.int 1 0), (.int 0 0), (.int 0 0), (.int 3 0), (.ref 226), (.bool true), (.int 181 0), (.ref 227), .none, (.ref 228), (.ref 229), (.ref 230), (.int 486 0), (.int 193 0), (.str "/claim/cut.py" 487)]),
  (232, fno (stAt 13) "_law_pool" .none .none (.str "law_nu0329_01" 474) (.ref 231)),
  (238, cdo [(.str "_law_pick" 489), (.str "_law_pick" 490), (.str "/claim/cut.py" 491), (.int 208 0), (.int 2 0), (.int 0 0), (.int 0 0), (.int 3 0), (.ref 233), (.bool true), (.int 181 0), (.ref 234), .none, (.ref 235), (.ref 236), (.ref 237), (.int 495 0), (.int 208 0), (.str "/claim/cut.py" 496)]),
  (239, fno (stAt 14) "_law_pick" .none .none (.str "law_nu0329_01" 474) (.ref 238)),
  (245, cdo [(.str "_law_words" 498), (.str "_law_words" 499), (.str "/claim/cut.py" 500), (.int 218 0), (.int 0 0), (.int 0 0), (.int 0 0), (.int 3 0), (.ref 240), (.bool true), (.int 181 0), (.ref 241), .none, (.ref 242), (.ref 243), (.ref 244), (.int 502 0), (.int 218 0), (.str "/claim/cut.py" 503)]),
  (246, fno (stAt 15) "_law_words" .none .none (.str "law_nu0329_01" 474) (.ref 245)),
  (252, cdo [(.str "_law_wrong" 505), (.str "_law_wrong" 506), (.str "/claim/cut.py" 507), (.int 221 0), (.int 1 0), (.int 0 0), (.int 0 0), (.int 3 0), (.ref 247), (.bool true), (.int 181 0), (.ref 248), .none, (.ref 249), (.ref 250), (.ref 251), (.int 511 0), (.int 221 0), (.str "/claim/cut.py" 512)]),
  (253, fno (stAt 16) "_law_wrong" .none .none (.str "law_nu0329_01" 474) (.ref 252)),
  (259, cdo [(.str "_law_token" 514), (.str "_law_token" 515), (.str "/claim/cut.py" 516), (.int 236 0), (.int 1 0), (.int 0 0), (.int 0 0), (.int 3 0), (.ref 254), (.bool true), (.int 181 0), (.ref 255), .none, (.ref 256), (.ref 257), (.ref 258), (.int 526 0), (.int 236 0), (.str "/claim/cut.py" 527)]),
  (260, fno (stAt 17) "_law_token" .none .none (.str "law_nu0329_01" 474) (.ref 259)),
  (266, cdo [(.str "_law_gap" 529), (.str "_law_gap" 530), (.str "/claim/cut.py" 531), (.int 260 0), (.int 2 0), (.int 0 0), (.int 0 0), (.int 3 0), (.ref 261), (.bool true), (.int 181 0), (.ref 262), .none, (.ref 263), (.ref 264), (.ref 265), (.int 537 0), (.int 260 0), (.str "/claim/cut.py" 538)]),
  (267, fno (stAt 18) "_law_gap" .none .none (.str "law_nu0329_01" 474) (.ref 266)),
  (271, cdo [(.str "law" 540), (.str "law" 541), (.str "/claim/cut.py" 542), (.int 268 0), (.int 1 0), (.int 0 0), (.int 0 0), (.int 3 0), (.ref 268), (.bool true), (.int 181 0), (.ref 269), .none, .none, .none, (.ref 270), (.int 543 0), (.int 268 0), (.str "/claim/cut.py" 544)]),
  (272, fno (stAt 19) "law" .none .none (.str "law_nu0329_01" 474) (.ref 271))]
end Mine
end
section
namespace Mine
noncomputable def vw : Program := PySem.W.view PySem.Challenge.pw_nu0329_01 [1, 2, 3, 4, 5, 6, 7, 8, 9, 11, 13, 14, 15, 16, 17, 18, 19]
set_option maxRecDepth 1000000 in
theorem kfAs (P : Params) : kfA = (kf P).map (·.1) := by kernel_rfl
abbrev Left1 : Prop := LeftO PySem.Challenge.rw_nu0329_01.row.toRowW.prog vw [] (fun s => xlAt vw [] s && recOk (RowW.records PySem.Challenge.rw_nu0329_01.row.toRowW) s) (Hook.obs (kHook kf kfA kfAs)) (Hook.val (kHook kf kfA kfAs)) 3266
end Mine
end
section
set_option maxRecDepth 100000
namespace Mine
noncomputable def tab2 : Tab := {
  gt := [("Token", 31), ("keywords", 42), ("is_letter", 49), ("is_digit", 56), ("is_hex_digit", 63), ("digits_value", 70), ("Scanner", 179), ("ErrorList", 221), ("_law_pool", 232), ("_law_pick", 239), ("_law_words", 246), ("_law_wrong", 253), ("_law_token", 260), ("_law_gap", 267)]
  gi := [("MOST_INTEGER", 2147483647), ("MOST_WORD", 4294967295)]
  gb := ["len", "ord", "chr", "abs", "int", "range", "sorted"]
  mt := [("char", 179, 92), ("take", 179, 99), ("skip", 179, 106), ("remark", 179, 113), ("word", 179, 120), ("numeral", 179, 127), ("whole", 179, 134), ("hexadecimal", 179, 141), ("character", 179, 148), ("real", 179, 155), ("skip_digits", 179, 162), ("string", 179, 169), ("symbol", 179, 176), ("mark", 221, 204), ("first", 221, 211), ("ok", 221, 218)]
  cel := [("wide", 0)] }
section
variable {G : Gl} {P : Params} (hK : G.K = kf P)
include hK
theorem f_char : FnOk G tab2 aChar 2 0 [.int 0] ir_Scanner_char :=
  fnOk_of (st := (inAt 9 1)) (q := "Scanner.char") (dV := .ref 85) (pm := .str "moduleyard.scanner" 187) (cd := .ref 91) ["self", "ahead"] (by rw [hK]; kernel_rfl) (by kernel_rfl) [.int 0 285] (fun _ _ _ => .cons (.int _ _) .nil) (bndD rfl fun _ _ => by rw [hK]; kernel_rfl) (by rw [hK]; kernel_rfl) (by kernel_rfl) (by kernel_rfl)
theorem f_char1 : FnOk G tab2 aChar 2 0 [] ir_Scanner_char :=
  fnOk_of (st := (inAt 9 1)) (q := "Scanner.char") (dV := .ref 85) (pm := .str "moduleyard.scanner" 187) (cd := .ref 91) ["self", "ahead"] (by rw [hK]; kernel_rfl) (by kernel_rfl) [] (fun _ _ _ => .nil) (bndE rfl fun _ _ _ => by rw [hK]; kernel_rfl) (by rw [hK]; kernel_rfl) (by kernel_rfl) (by kernel_rfl)
theorem f_Token_init : FnOk G tab2 28 4 0 [] ir_Token___init__ :=
  fnOk_of (st := (inAt 3 0)) (q := "Token.__init__") (dV := .none) (pm := .str "moduleyard.scanner" 187) (cd := .ref 27) ["self", "kind", "value", "place"] (by rw [hK]; kernel_rfl) (by kernel_rfl) [] (fun _ _ _ => .nil) (bnd4 rfl fun _ _ _ _ => (by kernel_rfl)) (by rw [hK]; kernel_rfl) (by kernel_rfl) (by kernel_rfl)
theorem f_keywords : FnOk G tab2 aKeywords 0 0 [] ir_keywords :=
  fnOk_of (st := (stAt 4)) (q := "keywords") (dV := .none) (pm := .str "moduleyard.scanner" 187) (cd := .ref 41) [] (by rw [hK]; kernel_rfl) (by kernel_rfl) [] (fun _ _ _ => .nil) (bnd0 rfl (by kernel_rfl)) (by rw [hK]; kernel_rfl) (by kernel_rfl) (by kernel_rfl)
theorem f_is_letter : FnOk G tab2 aIsLetter 1 0 [] ir_is_letter :=
  fnOk_of (st := (stAt 5)) (q := "is_letter") (dV := .none) (pm := .str "moduleyard.scanner" 187) (cd := .ref 48) ["char"] (by rw [hK]; kernel_rfl) (by kernel_rfl) [] (fun _ _ _ => .nil) (bnd1 rfl fun _ => (by kernel_rfl)) (by rw [hK]; kernel_rfl) (by kernel_rfl) (by kernel_rfl)
theorem f_is_digit : FnOk G tab2 aIsDigit 1 0 [] ir_is_digit :=
  fnOk_of (st := (stAt 6)) (q := "is_digit") (dV := .none) (pm := .str "moduleyard.scanner" 187) (cd := .ref 55) ["char"] (by rw [hK]; kernel_rfl) (by kernel_rfl) [] (fun _ _ _ => .nil) (bnd1 rfl fun _ => (by kernel_rfl)) (by rw [hK]; kernel_rfl) (by kernel_rfl) (by kernel_rfl)
theorem f_is_hex_digit : FnOk G tab2 aIsHexDigit 1 1 [] ir_is_hex_digit :=
  fnOk_of (st := (stAt 7)) (q := "is_hex_digit") (dV := .none) (pm := .str "moduleyard.scanner" 187) (cd := .ref 62) ["char"] (by rw [hK]; kernel_rfl) (by kernel_rfl) [] (fun _ _ _ => .nil) (bnd1 rfl fun _ => (by kernel_rfl)) (by rw [hK]; kernel_rfl) (by kernel_rfl) (by kernel_rfl)
theorem f_digits_value : FnOk G tab2 aDigitsValue 3 2 [] ir_digits_value :=
  fnOk_of (st := (stAt 8)) (q := "digits_value") (dV := .none) (pm := .str "moduleyard.scanner" 187) (cd := .ref 69) ["digits", "base", "most"] (by rw [hK]; kernel_rfl) (by kernel_rfl) [] (fun _ _ _ => .nil) (bnd3 rfl fun _ _ _ => (by kernel_rfl)) (by rw [hK]; kernel_rfl) (by kernel_rfl) (by kernel_rfl)
theorem f_Scanner_init : FnOk G tab2 84 3 1 [] ir_Scanner___init__ :=
  fnOk_of (st := (inAt 9 0)) (q := "Scanner.__init__") (dV := .none) (pm := .str "moduleyard.scanner" 187) (cd := .ref 83) ["self", "source", "errors"] (by rw [hK]; kernel_rfl) (by kernel_rfl) [] (fun _ _ _ => .nil) (bnd3 rfl fun _ _ _ => (by kernel_rfl)) (by rw [hK]; kernel_rfl) (by kernel_rfl) (by kernel_rfl)
theorem f_Scanner_take : FnOk G tab2 aTake 1 7 [] ir_Scanner_take :=
  fnOk_of (st := (inAt 9 2)) (q := "Scanner.take") (dV := .none) (pm := .str "moduleyard.scanner" 187) (cd := .ref 98) ["self"] (by rw [hK]; kernel_rfl) (by kernel_rfl) [] (fun _ _ _ => .nil) (bnd1 rfl fun _ => (by kernel_rfl)) (by rw [hK]; kernel_rfl) (by kernel_rfl) (by kernel_rfl)
theorem f_Scanner_skip : FnOk G tab2 aSkip 1 2 [] ir_Scanner_skip :=
  fnOk_of (st := (inAt 9 3)) (q := "Scanner.skip") (dV := .none) (pm := .str "moduleyard.scanner" 187) (cd := .ref 105) ["self"] (by rw [hK]; kernel_rfl) (by kernel_rfl) [] (fun _ _ _ => .nil) (bnd1 rfl fun _ => (by kernel_rfl)) (by rw [hK]; kernel_rfl) (by kernel_rfl) (by kernel_rfl)
theorem f_Scanner_remark : FnOk G tab2 aRemark 1 3 [] ir_Scanner_remark :=
  fnOk_of (st := (inAt 9 4)) (q := "Scanner.remark") (dV := .none) (pm := .str "moduleyard.scanner" 187) (cd := .ref 112) ["self"] (by rw [hK]; kernel_rfl) (by kernel_rfl) [] (fun _ _ _ => .nil) (bnd1 rfl fun _ => (by kernel_rfl)) (by rw [hK]; kernel_rfl) (by kernel_rfl) (by kernel_rfl)
theorem f_Scanner_word : FnOk G tab2 aWord 2 5 [] ir_Scanner_word :=
  fnOk_of (st := (inAt 9 5)) (q := "Scanner.word") (dV := .none) (pm := .str "moduleyard.scanner" 187) (cd := .ref 119) ["self", "begun"] (by rw [hK]; kernel_rfl) (by kernel_rfl) [] (fun _ _ _ => .nil) (bnd2 rfl fun _ _ => (by kernel_rfl)) (by rw [hK]; kernel_rfl) (by kernel_rfl) (by kernel_rfl)
theorem f_Scanner_numeral : FnOk G tab2 aNumeral 2 8 [] ir_Scanner_numeral :=
  fnOk_of (st := (inAt 9 6)) (q := "Scanner.numeral") (dV := .none) (pm := .str "moduleyard.scanner" 187) (cd := .ref 126) ["self", "begun"] (by rw [hK]; kernel_rfl) (by kernel_rfl) [] (fun _ _ _ => .nil) (bnd2 rfl fun _ _ => (by kernel_rfl)) (by rw [hK]; kernel_rfl) (by kernel_rfl) (by kernel_rfl)
theorem f_Scanner_whole : FnOk G tab2 aWhole 4 1 [] ir_Scanner_whole :=
  fnOk_of (st := (inAt 9 7)) (q := "Scanner.whole") (dV := .none) (pm := .str "moduleyard.scanner" 187) (cd := .ref 133) ["self", "begun", "value", "most"] (by rw [hK]; kernel_rfl) (by kernel_rfl) [] (fun _ _ _ => .nil) (bnd4 rfl fun _ _ _ _ => (by kernel_rfl)) (by rw [hK]; kernel_rfl) (by kernel_rfl) (by kernel_rfl)
theorem f_Scanner_hexadecimal : FnOk G tab2 aHexadecimal 3 4 [] ir_Scanner_hexadecimal :=
  fnOk_of (st := (inAt 9 8)) (q := "Scanner.hexadecimal") (dV := .none) (pm := .str "moduleyard.scanner" 187) (cd := .ref 140) ["self", "begun", "digits"] (by rw [hK]; kernel_rfl) (by kernel_rfl) [] (fun _ _ _ => .nil) (bnd3 rfl fun _ _ _ => (by kernel_rfl)) (by rw [hK]; kernel_rfl) (by kernel_rfl) (by kernel_rfl)
theorem f_Scanner_character : FnOk G tab2 aCharacter 3 4 [] ir_Scanner_character :=
  fnOk_of (st := (inAt 9 9)) (q := "Scanner.character") (dV := .none) (pm := .str "moduleyard.scanner" 187) (cd := .ref 147) ["self", "begun", "digits"] (by rw [hK]; kernel_rfl) (by kernel_rfl) [] (fun _ _ _ => .nil) (bnd3 rfl fun _ _ _ => (by kernel_rfl)) (by rw [hK]; kernel_rfl) (by kernel_rfl) (by kernel_rfl)
theorem f_Scanner_real : FnOk G tab2 aReal 2 3 [] ir_Scanner_real :=
  fnOk_of (st := (inAt 9 10)) (q := "Scanner.real") (dV := .none) (pm := .str "moduleyard.scanner" 187) (cd := .ref 154) ["self", "begun"] (by rw [hK]; kernel_rfl) (by kernel_rfl) [] (fun _ _ _ => .nil) (bnd2 rfl fun _ _ => (by kernel_rfl)) (by rw [hK]; kernel_rfl) (by kernel_rfl) (by kernel_rfl)
theorem f_Scanner_skip_digits : FnOk G tab2 aSkipDigits 1 1 [] ir_Scanner_skip_digits :=
  fnOk_of (st := (inAt 9 11)) (q := "Scanner.skip_digits") (dV := .none) (pm := .str "moduleyard.scanner" 187) (cd := .ref 161) ["self"] (by rw [hK]; kernel_rfl) (by kernel_rfl) [] (fun _ _ _ => .nil) (bnd1 rfl fun _ => (by kernel_rfl)) (by rw [hK]; kernel_rfl) (by kernel_rfl) (by kernel_rfl)
theorem f_Scanner_string : FnOk G tab2 aString 2 4 [] ir_Scanner_string :=
  fnOk_of (st := (inAt 9 12)) (q := "Scanner.string") (dV := .none) (pm := .str "moduleyard.scanner" 187) (cd := .ref 168) ["self", "begun"] (by rw [hK]; kernel_rfl) (by kernel_rfl) [] (fun _ _ _ => .nil) (bnd2 rfl fun _ _ => (by kernel_rfl)) (by rw [hK]; kernel_rfl) (by kernel_rfl) (by kernel_rfl)
theorem f_Scanner_symbol : FnOk G tab2 aSymbol 1 1 [] ir_Scanner_symbol :=
  fnOk_of (st := (inAt 9 13)) (q := "Scanner.symbol") (dV := .none) (pm := .str "moduleyard.scanner" 187) (cd := .ref 175) ["self"] (by rw [hK]; kernel_rfl) (by kernel_rfl) [] (fun _ _ _ => .nil) (bnd1 rfl fun _ => (by kernel_rfl)) (by rw [hK]; kernel_rfl) (by kernel_rfl) (by kernel_rfl)
theorem f_ErrorList_init : FnOk G tab2 197 1 0 [] ir_ErrorList___init__ :=
  fnOk_of (st := (inAt 11 0)) (q := "ErrorList.__init__") (dV := .none) (pm := .str "moduleyard.errors" 420) (cd := .ref 196) ["self"] (by rw [hK]; kernel_rfl) (by kernel_rfl) [] (fun _ _ _ => .nil) (bnd1 rfl fun _ => (by kernel_rfl)) (by rw [hK]; kernel_rfl) (by kernel_rfl) (by kernel_rfl)
theorem f_ErrorList_mark : FnOk G tab2 aMark 3 0 [] ir_ErrorList_mark :=
  fnOk_of (st := (inAt 11 1)) (q := "ErrorList.mark") (dV := .none) (pm := .str "moduleyard.errors" 420) (cd := .ref 203) ["self", "place", "code"] (by rw [hK]; kernel_rfl) (by kernel_rfl) [] (fun _ _ _ => .nil) (bnd3 rfl fun _ _ _ => (by kernel_rfl)) (by rw [hK]; kernel_rfl) (by kernel_rfl) (by kernel_rfl)
theorem f_ErrorList_first : FnOk G tab2 aFirst 1 2 [] ir_ErrorList_first :=
  fnOk_of (st := (inAt 11 2)) (q := "ErrorList.first") (dV := .none) (pm := .str "moduleyard.errors" 420) (cd := .ref 210) ["self"] (by rw [hK]; kernel_rfl) (by kernel_rfl) [] (fun _ _ _ => .nil) (bnd1 rfl fun _ => (by kernel_rfl)) (by rw [hK]; kernel_rfl) (by kernel_rfl) (by kernel_rfl)
theorem f_ErrorList_ok : FnOk G tab2 aOk 1 1 [] ir_ErrorList_ok :=
  fnOk_of (st := (inAt 11 3)) (q := "ErrorList.ok") (dV := .none) (pm := .str "moduleyard.errors" 420) (cd := .ref 217) ["self"] (by rw [hK]; kernel_rfl) (by kernel_rfl) [] (fun _ _ _ => .nil) (bnd1 rfl fun _ => (by kernel_rfl)) (by rw [hK]; kernel_rfl) (by kernel_rfl) (by kernel_rfl)
theorem f_law_pool : FnOk G tab2 aPool 1 10 [] ir__law_pool :=
  fnOk_of (st := (stAt 13)) (q := "_law_pool") (dV := .none) (pm := .str "law_nu0329_01" 474) (cd := .ref 231) ["script"] (by rw [hK]; kernel_rfl) (by kernel_rfl) [] (fun _ _ _ => .nil) (bnd1 rfl fun _ => (by kernel_rfl)) (by rw [hK]; kernel_rfl) (by kernel_rfl) (by kernel_rfl)
theorem f_law_pick : FnOk G tab2 aPick 2 2 [] ir__law_pick :=
  fnOk_of (st := (stAt 14)) (q := "_law_pick") (dV := .none) (pm := .str "law_nu0329_01" 474) (cd := .ref 238) ["pool", "bound_x"] (by rw [hK]; kernel_rfl) (by kernel_rfl) [] (fun _ _ _ => .nil) (bnd2 rfl fun _ _ => (by kernel_rfl)) (by rw [hK]; kernel_rfl) (by kernel_rfl) (by kernel_rfl)
theorem f_law_words : FnOk G tab2 aWords 0 1 [] ir__law_words :=
  fnOk_of (st := (stAt 15)) (q := "_law_words") (dV := .none) (pm := .str "law_nu0329_01" 474) (cd := .ref 245) [] (by rw [hK]; kernel_rfl) (by kernel_rfl) [] (fun _ _ _ => .nil) (bnd0 rfl (by kernel_rfl)) (by rw [hK]; kernel_rfl) (by kernel_rfl) (by kernel_rfl)
theorem f_law_wrong : FnOk G tab2 aWrong 1 4 [] ir__law_wrong :=
  fnOk_of (st := (stAt 16)) (q := "_law_wrong") (dV := .none) (pm := .str "law_nu0329_01" 474) (cd := .ref 252) ["pool"] (by rw [hK]; kernel_rfl) (by kernel_rfl) [] (fun _ _ _ => .nil) (bnd1 rfl fun _ => (by kernel_rfl)) (by rw [hK]; kernel_rfl) (by kernel_rfl) (by kernel_rfl)
theorem f_law_token : FnOk G tab2 aTok 1 13 [] ir__law_token :=
  fnOk_of (st := (stAt 17)) (q := "_law_token") (dV := .none) (pm := .str "law_nu0329_01" 474) (cd := .ref 259) ["pool"] (by rw [hK]; kernel_rfl) (by kernel_rfl) [] (fun _ _ _ => .nil) (bnd1 rfl fun _ => (by kernel_rfl)) (by rw [hK]; kernel_rfl) (by kernel_rfl) (by kernel_rfl)
theorem f_law_gap : FnOk G tab2 aGap 2 6 [] ir__law_gap :=
  fnOk_of (st := (stAt 18)) (q := "_law_gap") (dV := .none) (pm := .str "law_nu0329_01" 474) (cd := .ref 266) ["pool", "must"] (by rw [hK]; kernel_rfl) (by kernel_rfl) [] (fun _ _ _ => .nil) (bnd2 rfl fun _ _ => (by kernel_rfl)) (by rw [hK]; kernel_rfl) (by kernel_rfl) (by kernel_rfl)
end
noncomputable def ct2 : List (Addr × Nat) := [(31, 4), (31, 5), (31, 2), (179, 0), (179, 1), (179, 2), (179, 3), (221, 6), (221, 7)]
theorem ct2Ok (P : Params) : ∀ p ∈ ct2, p.2 < 8 ∧ AttrOk (kf P) p.1 (atName p.2) := by
  refine List.forall_mem_cons.mpr ⟨⟨by decide, ⟨by kernel_rfl, by kernel_rfl, ⟨none, by kernel_rfl, by kernel_rfl⟩, by kernel_rfl, by kernel_rfl, by kernel_rfl⟩⟩, List.forall_mem_cons.mpr ⟨⟨by decide, ⟨by kernel_rfl, by kernel_rfl, ⟨none, by kernel_rfl, by kernel_rfl⟩, by kernel_rfl, by kernel_rfl, by kernel_rfl⟩⟩, List.forall_mem_cons.mpr ⟨⟨by decide, ⟨by kernel_rfl, by kernel_rfl, ⟨none, by kernel_rfl, by kernel_rfl⟩, by kernel_rfl, by kernel_rfl, by kernel_rfl⟩⟩, List.forall_mem_cons.mpr ⟨⟨by decide, ⟨by kernel_rfl, by kernel_rfl, ⟨none, by kernel_rfl, by kernel_rfl⟩, by kernel_rfl, by kernel_rfl, by kernel_rfl⟩⟩, List.forall_mem_cons.mpr ⟨⟨by decide, ⟨by kernel_rfl, by kernel_rfl, ⟨none, by kernel_rfl, by kernel_rfl⟩, by kernel_rfl, by kernel_rfl, by kernel_rfl⟩⟩, List.forall_mem_cons.mpr ⟨⟨by decide, ⟨by kernel_rfl, by kernel_rfl, ⟨none, by kernel_rfl, by kernel_rfl⟩, by kernel_rfl, by kernel_rfl, by kernel_rfl⟩⟩, List.forall_mem_cons.mpr ⟨⟨by decide, ⟨by kernel_rfl, by kernel_rfl, ⟨none, by kernel_rfl, by kernel_rfl⟩, by kernel_rfl, by kernel_rfl, by kernel_rfl⟩⟩, List.forall_mem_cons.mpr ⟨⟨by decide, ⟨by kernel_rfl, by kernel_rfl, ⟨none, by kernel_rfl, by kernel_rfl⟩, by kernel_rfl, by kernel_rfl, by kernel_rfl⟩⟩, List.forall_mem_cons.mpr ⟨⟨by decide, ⟨by kernel_rfl, by kernel_rfl, ⟨none, by kernel_rfl, by kernel_rfl⟩, by kernel_rfl, by kernel_rfl, by kernel_rfl⟩⟩, fun _ h => nomatch h⟩⟩⟩⟩⟩⟩⟩⟩⟩
theorem mt2Ok (P : Params) : ∀ q ∈ tab2.mt, MethOk (kf P) q.2.1 q.1 q.2.2 ∧ q.1 ∉ atNames := by
  refine List.forall_mem_cons.mpr ⟨⟨⟨by kernel_rfl, by kernel_rfl, by kernel_rfl, by kernel_rfl⟩, by decide +kernel⟩, List.forall_mem_cons.mpr ⟨⟨⟨by kernel_rfl, by kernel_rfl, by kernel_rfl, by kernel_rfl⟩, by decide +kernel⟩, List.forall_mem_cons.mpr ⟨⟨⟨by kernel_rfl, by kernel_rfl, by kernel_rfl, by kernel_rfl⟩, by decide +kernel⟩, List.forall_mem_cons.mpr ⟨⟨⟨by kernel_rfl, by kernel_rfl, by kernel_rfl, by kernel_rfl⟩, by decide +kernel⟩, List.forall_mem_cons.mpr ⟨⟨⟨by kernel_rfl, by kernel_rfl, by kernel_rfl, by kernel_rfl⟩, by decide +kernel⟩, List.forall_mem_cons.mpr ⟨⟨⟨by kernel_rfl, by kernel_rfl, by kernel_rfl, by kernel_rfl⟩, by decide +kernel⟩, List.forall_mem_cons.mpr ⟨⟨⟨by kernel_rfl, by kernel_rfl, by kernel_rfl, by kernel_rfl⟩, by decide +kernel⟩, List.forall_mem_cons.mpr ⟨⟨⟨by kernel_rfl, by kernel_rfl, by kernel_rfl, by kernel_rfl⟩, by decide +kernel⟩, List.forall_mem_cons.mpr ⟨⟨⟨by kernel_rfl, by kernel_rfl, by kernel_rfl, by kernel_rfl⟩, by decide +kernel⟩, List.forall_mem_cons.mpr ⟨⟨⟨by kernel_rfl, by kernel_rfl, by kernel_rfl, by kernel_rfl⟩, by decide +kernel⟩, List.forall_mem_cons.mpr ⟨⟨⟨by kernel_rfl, by kernel_rfl, by kernel_rfl, by kernel_rfl⟩, by decide +kernel⟩, List.forall_mem_cons.mpr ⟨⟨⟨by kernel_rfl, by kernel_rfl, by kernel_rfl, by kernel_rfl⟩, by decide +kernel⟩, List.forall_mem_cons.mpr ⟨⟨⟨by kernel_rfl, by kernel_rfl, by kernel_rfl, by kernel_rfl⟩, by decide +kernel⟩, List.forall_mem_cons.mpr ⟨⟨⟨by kernel_rfl, by kernel_rfl, by kernel_rfl, by kernel_rfl⟩, by decide +kernel⟩, List.forall_mem_cons.mpr ⟨⟨⟨by kernel_rfl, by kernel_rfl, by kernel_rfl, by kernel_rfl⟩, by decide +kernel⟩, List.forall_mem_cons.mpr ⟨⟨⟨by kernel_rfl, by kernel_rfl, by kernel_rfl, by kernel_rfl⟩, by decide +kernel⟩, fun _ h => nomatch h⟩⟩⟩⟩⟩⟩⟩⟩⟩⟩⟩⟩⟩⟩⟩⟩
section
variable {G : Gl} {P : Params} (hK : G.K = kf P)
include hK
theorem tabOk2 (hm : G.mt = tab2.mt) : TabOk G tab2 := by
  refine ⟨?_, ?_, ?_, fun q h => by rw [hm]; exact h⟩
  · rw [hK]; refine List.forall_mem_cons.mpr ⟨⟨by kernel_rfl, by kernel_rfl⟩, List.forall_mem_cons.mpr ⟨⟨by kernel_rfl, by kernel_rfl⟩, List.forall_mem_cons.mpr ⟨⟨by kernel_rfl, by kernel_rfl⟩, List.forall_mem_cons.mpr ⟨⟨by kernel_rfl, by kernel_rfl⟩, List.forall_mem_cons.mpr ⟨⟨by kernel_rfl, by kernel_rfl⟩, List.forall_mem_cons.mpr ⟨⟨by kernel_rfl, by kernel_rfl⟩, List.forall_mem_cons.mpr ⟨⟨by kernel_rfl, by kernel_rfl⟩, List.forall_mem_cons.mpr ⟨⟨by kernel_rfl, by kernel_rfl⟩, List.forall_mem_cons.mpr ⟨⟨by kernel_rfl, by kernel_rfl⟩, List.forall_mem_cons.mpr ⟨⟨by kernel_rfl, by kernel_rfl⟩, List.forall_mem_cons.mpr ⟨⟨by kernel_rfl, by kernel_rfl⟩, List.forall_mem_cons.mpr ⟨⟨by kernel_rfl, by kernel_rfl⟩, List.forall_mem_cons.mpr ⟨⟨by kernel_rfl, by kernel_rfl⟩, List.forall_mem_cons.mpr ⟨⟨by kernel_rfl, by kernel_rfl⟩, fun _ h => nomatch h⟩⟩⟩⟩⟩⟩⟩⟩⟩⟩⟩⟩⟩⟩
  · rw [hK]; refine List.forall_mem_cons.mpr ⟨⟨189, by kernel_rfl⟩, List.forall_mem_cons.mpr ⟨⟨191, by kernel_rfl⟩, fun _ h => nomatch h⟩⟩
  · rw [hK]; refine List.forall_mem_cons.mpr ⟨by kernel_rfl, List.forall_mem_cons.mpr ⟨by kernel_rfl, List.forall_mem_cons.mpr ⟨by kernel_rfl, List.forall_mem_cons.mpr ⟨by kernel_rfl, List.forall_mem_cons.mpr ⟨by kernel_rfl, List.forall_mem_cons.mpr ⟨by kernel_rfl, List.forall_mem_cons.mpr ⟨by kernel_rfl, fun _ h => nomatch h⟩⟩⟩⟩⟩⟩⟩
theorem k_Token : ClsOk G tab2 aToken 28 4 0 [] ir_Token___init__ := ⟨by rw [hK]; exact ⟨by kernel_rfl, by kernel_rfl, by kernel_rfl, by kernel_rfl⟩, f_Token_init hK⟩
theorem k_Scanner : ClsOk G tab2 aScanner 84 3 1 [] ir_Scanner___init__ := ⟨by rw [hK]; exact ⟨by kernel_rfl, by kernel_rfl, by kernel_rfl, by kernel_rfl⟩, f_Scanner_init hK⟩
theorem k_ErrorList : ClsOk G tab2 aErrorList 197 1 0 [] ir_ErrorList___init__ := ⟨by rw [hK]; exact ⟨by kernel_rfl, by kernel_rfl, by kernel_rfl, by kernel_rfl⟩, f_ErrorList_init hK⟩
end
end Mine
end
section
namespace Mine
theorem rvs_ints {hb : Heap} {ρ : List (List Addr)} {N : Led} {vs : List Value} {is : List Int} (h : IntsAre vs is) : RVs hb ρ N (is.map AV.int) vs := by
  induction h with
  | nil => exact .nil
  | cons n t _ ih => exact .cons (.int n t) ih
end Mine
end
section
namespace Mine
noncomputable def scpOkC (names : List Str) (sc : Scope) (k e : Nat) : Bool :=
  decide (sc.names.take names.length = names.map fun x => (x, NameKind.local)) && decide ((sc.names.map (·.1)).Nodup) && !sc.isCoroutine && !sc.isGenerator && decide (sc.kind = .function) && decide (names.length = k) && decide (sc.names.length = k + e)
theorem ca_one {cm : Str → Option Value} {cs : List (Str × Addr)} {cells : List (Addr × Obj)} {n : Str} {c : Addr} {o : Obj} (h : CellsAre cm cs cells) (hc : cs = [(n, c)]) (ho : cells = [(c, o)]) : o.data = .cell (cm n) := by
  subst hc
  obtain ⟨o', e, h'⟩ := h.one
  rw [ho] at e
  cases e
  exact h'
theorem law_inC {G : Gl} {t : Tab} {e : Nat} {ir : IS} {body : List Stmt} {sc : Scope} {qual : Str} {fa : Addr} {cd : Value} (hG : TabOk G t) (hs : scpOkC ["script"] sc 1 e = true) {y : Str} (hy : t.cel = [(y, 0)]) (hi : cB t sc.names 60 body = some ir)
    {s₁ : Shared} {h₁ : Heap} {k : Nat} {A A₀ : Around} {a : Addr} {vs : List Value} {is : List Int} {m : Str → Option Value}
    (X : G.K.In s₁.heap) (T : Top G.p G.loose G.mean G.mg G.mb s₁.heap) (B : Below A₀ s₁.heap [] s₁.heap) (F : Fr s₁.heap s₁.heap.objs.size h₁ m) (hm : m "script" = some (.ref a))
    {o : Obj} (N : News s₁.heap s₁.heap.objs.size h₁ [(s₁.heap.objs.size + 1, o)]) (ho : o.data = .cell none) (hcl : cellsFrom (s₁.heap.objs.size + 1) sc.names [] = [(y, s₁.heap.objs.size + 1)]) (hl : s₁.heap.IsList a vs.toArray) (hI : IntsAre vs is) (hA : A.frames = some (envOfC qual sc s₁.heap.objs.size fa cd :: [])) (hh : A.handled = none) (hd : A.depth + 3 * 40 < recursionLimit) (hu : A.units + 40 * 40 + 400 < cLine)
    (hv : vS G 40 ir ⟨some (.lst (is.map .int)) :: List.replicate e none, [.cell none]⟩ fun fl _ => retOf fl = .bool true) {Q : Flow → Shared → Prop} {E : Value → Shared → Prop}
    (q : ∀ s', (∀ b o, s₁.heap.get? b = some o → s'.heap.get? b = some o) → s'.os = s₁.os → s'.gens = s₁.gens → Q (.ret (.bool true)) s') :
    wpAny (model G.prog G.w) A (execs body (envOfC qual sc s₁.heap.objs.size fa cd)) Q E { s₁ with heap := h₁, toks := k } := by
  unfold scpOkC at hs
  simp only [Bool.and_eq_true, decide_eq_true_eq, Bool.not_eq_true', List.all_eq_true] at hs
  obtain ⟨⟨⟨⟨⟨⟨h1, h2⟩, h3⟩, h4⟩, h5⟩, h7⟩, h8⟩ := hs
  let c : Cx G := ⟨A, qual, sc, fa, cd, [], A₀, s₁.heap, s₁.heap, s₁.heap.objs.size, s₁.gens, s₁.drawn, s₁.os, 40, B, X, T, cellsFrom (s₁.heap.objs.size + 1) sc.names [], [(y, 0)], hA, hh, h5, h2, hd, hu⟩
  have h0 : sc.names[0]? = some (PySem.Str.ofString "script", NameKind.local) := pre_names (names := ["script"]) h1 (i := 0) rfl
  have d : RelD c ⟨some (.lst (is.map .int)) :: List.replicate e none, [.cell none]⟩ ⟨[], [], []⟩ { s₁ with heap := h₁, toks := k } [[s₁.heap.objs.size + 1]] [(s₁.heap.objs.size + 1, o)] m := by
    refine ⟨F, N, by simp, by simp, rfl, fun i b hb => ?_, fun i x hx => ?_, .nil, (fun _ h => nomatch h), ⟨rfl, rfl, rfl⟩, fun x i hx => ?_⟩
    rotate_left
    · cases i with
      | zero => cases hx; exact ⟨_, rfl, _, o, none, rfl, .head _, ho, rfl⟩
      | succ i => simp at hx
    · have hx : (x, i) ∈ [(y, 0)] := hx
      cases List.mem_singleton.mp hx
      refine ⟨s₁.heap.objs.size + 1, ?_, .obj (as := []) rfl⟩
      show (cellsFrom (s₁.heap.objs.size + 1) sc.names []).lookup y = _
      rw [hcl]
      simp
    cases i with
    | zero =>
      cases hb
      exact ⟨_, .ref a, h0, hm, .lstB hl (rvs_ints hI)⟩
    | succ i =>
      simp only [List.getElem?_cons_succ, List.getElem?_replicate] at hb
      split at hb <;> simp at hb
  refine wpAny_mono ((cS_ok (c := c) ⟨hG, fun x i _ h => by rw [hy] at h; exact h⟩ (Nat.le_refl _) 60).2 _ _ hi _ _ hv ⟨[], [], []⟩ _ ⟨_, _, m, d⟩ Q fun fl f st' s' hP hf => ?_) (fun _ _ x => x) fun _ _ x => x.elim
  have hP : retOf fl = .bool true := hP
  cases fl with
  | ret a =>
    cases f with
    | ret v =>
      have hf : Rel c st' (Fm.push _ a v) s' := hf
      cases (show a = .bool true from hP)
      obtain ⟨ρ, N', m', d'⟩ := hf
      have hp := d'.pend
      cases hp with
      | cons p _ =>
        cases p
        exact q s' d'.F.keep d'.g.2.2 d'.g.1
    | _ => exact hf.elim
  | _ => cases hP
end Mine
end
section
namespace Mine
noncomputable def gl1 (w : World) (mean : ExcName → Option Value) (mg mb : Str → Option Value) : Gl := ⟨PySem.Challenge.rw_nu0329_01.row.toRowW.prog, w, kf w.params, vw, looseW vw [], mean, mg, mb, ct2, tab2.mt, ct2Ok _, mt2Ok _⟩
noncomputable def Body1 : Prop := ∀ (G : Gl) (P : Params), G.K = kf P → G.mt = tab2.mt → G.ct = ct2 → ∀ is : List Int, is.length ≤ 63 → vS G 40 ir_law ⟨some (.lst (is.map .int)) :: List.replicate 27 none, [.cell none]⟩ fun fl _ => retOf fl = .bool true
theorem ws1 : OpenLaw.wellSaid PySem.Challenge.rw_nu0329_01 = true := by decide +kernel
set_option maxRecDepth 1000000 in
set_option maxHeartbeats 8000000 in
theorem en1 (left : Left1) (lw : Body1) : PySem.Challenge.rw_nu0329_01.Holds := by
  w_on
  refine holds_law ws1 fun said => ?_
  refine holds_open (q := vw) (loose := []) (Xt := fun s => xlAt vw [] s && recOk (RowW.records PySem.Challenge.rw_nu0329_01.row.toRowW) s) (XP := XL vw []) (Yf := Hook.obs (kHook kf kfA kfAs)) (Ya := Hook.val (kHook kf kfA kfAs)) (YP := Hook.says (kHook kf kfA kfAs)) (N := 3266) left (Hook.of _) (Hook.keeps _) (fun s e => xl_of s (Bool.and_eq_true_iff.mp e).1) XL.keeps (by rfl) (by rfl) (by rfl) (fun s e => recFacts_of (Bool.and_eq_true_iff.mp e).2) (by rfl) ‹_› (by decide +kernel) ⟨rfl, rfl, rfl, rfl, rfl, by decide +kernel⟩ ?hw ?hc
  case hw => w_witness2
  case hc =>
    clear left
    intro w s₀ s₁ mg mb G Y fa o pm cd doc dV kV ho hd hcd hD hmg hg args vals as hpre hlay hrd hwl hlo
    have KX := kIn_of Y
    have X := (Ground.X G).1
    have V := (Ground.X G).2
    refine Ground.open G ?_
    intro T B D TE TW
    try (refine guard_noD D (by decide +kernel) ?_; clear D)
    obtain ⟨_, _, M⟩ := bmod_of_top T
    have TA := at_of_top T
    try (obtain ⟨_, _, he, B0⟩ := based_of_top T rfl hmg ho hd; have he' : cd = _ := he; subst he'; clear he)
    clear hmg
    wrow_args hpre hlay hrd hwl hlo
    all_goals (
      first | refine callC_kw (enter_call ?_) | refine enter_call ?_ | refine callC_kw (enter_callW ?_) | refine enter_callW ?_ | w_how
      w_top on
      try refine codeAny_mono ?_ (fun _ _ g => GoodW.toG g)
      have K0 := below_caller (Top.heap T)
      w_call any ho hd hcd hD T F
      clear hd TA
      k_drop
      skip)
    rename Top _ _ _ _ _ _ => TT
    rename Below _ _ _ _ => BB
    rename Fr _ _ _ _ => FF
    rename News _ _ _ _ => NN
    rename Heap.IsList _ _ _ => LL
    rename IntsAre _ _ => II
    rename ¬_ => CC
    rename CellsAre _ _ _ => CA
    refine law_inC (G := gl1 w (ExcName.means s₀.heap) mg mb) (t := tab2) (e := 27) (ir := ir_law) (tabOk2 rfl rfl) (by kernel_rfl) (y := "wide") rfl (by kernel_rfl) KX TT BB FF (by rfl) NN (ca_one (n := "wide") CA (by rfl) rfl) (by rfl) LL II (by rfl) (by rfl) (show callerA.depth + 1 + 3 * 40 < recursionLimit by decide) (show callerA.units + 3 + 40 * 40 + 400 < cLine by decide) (lw _ w.params rfl rfl rfl _ (by omega)) (fun s' h1 h2 h3 => ?_)
    refine ⟨.inl ⟨_, _, [], rfl, fun _ => by rfl, ReadsW.bool true, ?_, fun _ => ⟨List.nodup_nil, fun _ hm => (nomatch hm)⟩⟩, h1, h2, h3.trans hg⟩
    first | kernel_rfl | (trace "no rfl"; wrow_post)
end Mine
end
section
set_option maxRecDepth 20000
namespace Mine
section
variable {G : Gl} {n : Nat} {st : ASt} {P : AFl → ASt → Prop} {r : IS}
theorem sq_set {i : Nat} {e : IE} (h : vE G n e st fun a st1 => vS G n r { st1 with env := st1.env.set i (some a) } P) : vS G n (.seq (.set i e) r) st P := h
theorem sq_setA {o e : IE} {k : Nat} (h : vE G n e st fun b st1 => vE G n o st1 fun a st2 => SetAttr G st2.heap a k b fun hp => vS G n r { st2 with heap := hp } P) : vS G n (.seq (.setA o k e) r) st P := h
theorem sq_setI {o i e : IE} (h : vE G n e st fun v st1 => vE G n o st1 fun a st2 => vE G n i st2 fun b st3 => SetItem st3.heap a b v fun hp => vS G n r { st3 with heap := hp } P) : vS G n (.seq (.setI o i e) r) st P := h
theorem sq_many {is : List Nat} {e : IE} (h : vE G n e st fun a st1 => onTup a fun l => l.length = is.length ∧ vS G n r { st1 with env := setMany is l st1.env } P) : vS G n (.seq (.many is e) r) st P := h
theorem sq_exp {e : IE} (h : vE G n e st fun _ st1 => vS G n r st1 P) : vS G n (.seq (.exp e) r) st P := h
theorem sq_ret {e : IE} (h : vE G n e st fun a st1 => P (.ret a) st1) : vS G n (.seq (.ret e) r) st P := h
theorem sq_brk (h : P .brk st) : vS G n (.seq .brk r) st P := h
theorem sq_skip (h : P .next st) : vS G n .skip st P := h
theorem sq_ife {t : IT} {b o : IS} (h : vT G n t st fun x st1 => fork x (vS G n b st1 (goOn (fun st1 => vS G n r st1 P) P)) (vS G n o st1 (goOn (fun st1 => vS G n r st1 P) P))) : vS G n (.seq (.ife t b o) r) st P := h
theorem sq_whl {t : IT} {b : IS} (h : vWhl (vT G n t) (vS G n b) st (goOn (fun st1 => vS G n r st1 P) P)) : vS G n (.seq (.whl t b) r) st P := h
theorem sq_forL {i : Nat} {e : IE} {b : IS} (h : vE G n e st fun a st1 => onLst a fun l => vLoop l i (vS G n b) st1 (goOn (fun st1 => vS G n r st1 P) P)) : vS G n (.seq (.forL i e b) r) st P := h
theorem sq_forS {i : Nat} {e : IE} {b : IS} (h : vE G n e st fun a st1 => onStr a fun y => vLoop (y.cps.toList.map fun m => AV.str ⟨#[m]⟩) i (vS G n b) st1 (goOn (fun st1 => vS G n r st1 P) P)) : vS G n (.seq (.forS i e b) r) st P := h
theorem sq_forR {i : Nat} {e : IE} {b : IS} (h : vE G n e st fun a st1 => onInt a fun m => (-(2 ^ 40) ≤ m ∧ m ≤ 2 ^ 40) ∧ vLoop (upItems m) i (vS G n b) st1 (goOn (fun st1 => vS G n r st1 P) P)) : vS G n (.seq (.forR i e b) r) st P := h
theorem sq_aug {i : Nat} {op : Operator} {e : IE} (h : onLoc st i fun a => vE G n e st fun b st1 => Aug op a b fun v => vS G n r { st1 with env := st1.env.set i (some v) } P) : vS G n (.seq (.aug i op e) r) st P := h
theorem sq_augI {o i e : IE} {op : Operator} (h : vE G n o st fun a st1 => vE G n i st1 fun b st2 => GetIdx st2.heap a b fun w => vE G n e st2 fun d st3 => Aug op w d fun v => SetIdx st3.heap a b v fun hp => vS G n r { st3 with heap := hp } P) : vS G n (.seq (.augI o i op e) r) st P := h
end
theorem FnOk.at {G : Gl} {t : Tab} {f : Addr} {k e : Nat} {das : List AV} {ir : IS} (F : FnOk G t f k e das ir) (hG : TabOk G t) (m : Nat) {n : Nat} {args : List AV} {hp : List AO} {P : AV → List AO → Prop} (hm : m + 1 ≤ n) (hn : args.length + das.length = k)
    (hv : vS G m ir ⟨(args ++ das).map some ++ List.replicate e none, hp⟩ fun fl st => P (retOf fl) st.heap) : TF G n f args hp P := (F.go hG hn hv).up hm
theorem ClsOk.at {G : Gl} {t : Tab} {C fI : Addr} {k e : Nat} {das : List AV} {ir : IS} (F : ClsOk G t C fI k e das ir) (hG : TabOk G t) (m : Nat) {n : Nat} {args : List AV} {hp : List AO} {P : AV → List AO → Prop} (hm : m + 1 ≤ n) (hn : args.length + 1 + das.length = k)
    (hv : vS G m ir ⟨((.obj hp.length :: args) ++ das).map some ++ List.replicate e none, hp ++ [.inst C []]⟩ fun fl st => retOf fl = .none ∧ P (.obj hp.length) st.heap) : TF G n C args hp P := (F.go hG hn hv).up hm
set_option genInjectivity false in
structure Ok (G : Gl) : Prop where
  hk : ∃ P, G.K = kf P
  mt : G.mt = tab2.mt
  ct : G.ct = ct2
theorem Ok.tab {G : Gl} (O : Ok G) : TabOk G tab2 := O.hk.elim fun _ h => tabOk2 h O.mt

noncomputable def sv (l : List Str) : List AV := l.map .str
noncomputable def kwl : List Str := ["ARRAY", "BEGIN", "BY", "CASE", "CONST", "DIV", "DO", "ELSE", "ELSIF", "END", "FOR", "IF", "IMPORT", "IN", "IS", "MOD", "MODULE", "NIL", "OF", "OR", "POINTER", "PROCEDURE", "RECORD", "REPEAT", "RETURN", "THEN", "TO", "TYPE", "UNTIL", "VAR", "WHILE"]
noncomputable def scn (x : Str) (e : Nat) (p : Int) : AO := .inst aScanner [(0, .str x), (1, .obj e), (2, .int p), (3, .tup (sv kwl))]
noncomputable def tok (k v : AV) (p : Int) : AO := .inst aToken [(4, k), (5, v), (2, .int p)]
noncomputable def erl (r d : Nat) : AO := .inst aErrorList [(6, .obj r), (7, .obj d)]
section
variable {hp : List AO} {i : Nat} {x : Str} {e : Nat} {p : Int} {P : AV → Prop}
theorem at_src (h : hp[i]? = some (scn x e p)) : Attr hp (.obj i) 0 P = P (.str x) := by simp [Attr, h, scn, List.lookup]
theorem at_err (h : hp[i]? = some (scn x e p)) : Attr hp (.obj i) 1 P = P (.obj e) := by simp [Attr, h, scn, List.lookup]
theorem at_plc (h : hp[i]? = some (scn x e p)) : Attr hp (.obj i) 2 P = P (.int p) := by simp [Attr, h, scn, List.lookup]
theorem at_wrd (h : hp[i]? = some (scn x e p)) : Attr hp (.obj i) 3 P = P (.tup (sv kwl)) := by simp [Attr, h, scn, List.lookup]
theorem at_row {r d : Nat} (h : hp[i]? = some (erl r d)) : Attr hp (.obj i) 6 P = P (.obj r) := by simp [Attr, h, erl, List.lookup]
theorem at_plcs {r d : Nat} (h : hp[i]? = some (erl r d)) : Attr hp (.obj i) 7 P = P (.obj d) := by simp [Attr, h, erl, List.lookup]
theorem at_kind {k v : AV} (h : hp[i]? = some (tok k v p)) : Attr hp (.obj i) 4 P = P k := by simp [Attr, h, tok, List.lookup]
theorem at_val {k v : AV} (h : hp[i]? = some (tok k v p)) : Attr hp (.obj i) 5 P = P v := by simp [Attr, h, tok, List.lookup]
theorem at_tplc {k v : AV} (h : hp[i]? = some (tok k v p)) : Attr hp (.obj i) 2 P = P (.int p) := by simp [Attr, h, tok, List.lookup]
theorem set_plc {G : Gl} {q : Int} {R : List AO → Prop} (O : Ok G) (h : hp[i]? = some (scn x e p)) : SetAttr G hp (.obj i) 2 (.int q) R = R (hp.set i (scn x e q)) := by
  have : (aScanner, 2) ∈ G.ct := by rw [O.ct]; decide
  simp [SetAttr, h, scn, putA, this]
theorem set_val {G : Gl} {k v u : AV} {R : List AO → Prop} (O : Ok G) (h : hp[i]? = some (tok k v p)) : SetAttr G hp (.obj i) 5 u R = R (hp.set i (tok k u p)) := by
  have : (aToken, 5) ∈ G.ct := by rw [O.ct]; decide
  simp [SetAttr, h, tok, putA, this]
theorem on_scn {C : Nat → Prop} (h : hp[i]? = some (scn x e p)) : onInst hp (.obj i) aScanner C = C i := by simp [onInst, h, scn]
theorem on_erl {C : Nat → Prop} {r d : Nat} (h : hp[i]? = some (erl r d)) : onInst hp (.obj i) aErrorList C = C i := by simp [onInst, h, erl]
end
theorem set_same {l : List AO} {i : Nat} {o u : AO} (h : l[i]? = some o) : (l.set i u)[i]? = some u := by
  have := (List.getElem?_eq_some_iff.mp h).1
  simp [this]
theorem set_other {l : List AO} {i j : Nat} {o u : AO} (h : l[j]? = some o) (hj : i ≠ j) : (l.set i u)[j]? = some o := by
  rw [List.getElem?_set_ne hj]; exact h
theorem push_same {l : List AO} {i : Nat} {o u : AO} (h : l[i]? = some o) : (l ++ [u])[i]? = some o := by
  have := (List.getElem?_eq_some_iff.mp h).1
  rw [List.getElem?_append_left this]; exact h
set_option genInjectivity false in
structure Wd where
  x : Str
  i : Nat
  e : Nat
  r : Nat
  d : Nat
set_option genInjectivity false in
structure Sc (w : Wd) (p : Nat) (rows : List AV) (ks : List Int) (hp : List AO) : Prop where
  s : hp[w.i]? = some (scn w.x w.e (p : Int))
  e : hp[w.e]? = some (erl w.r w.d)
  r : hp[w.r]? = some (.list rows)
  d : hp[w.d]? = some (.dict ks)
  sz : w.x.length ≤ 1000000
theorem ne_of {hp : List AO} {i j : Nat} {a b : AO} (h : hp[i]? = some a) (h' : hp[j]? = some b) (hab : a ≠ b) : i ≠ j := fun e => hab (by subst e; rw [h] at h'; exact Option.some.inj h')
section
variable {w : Wd} {p : Nat} {rows : List AV} {ks : List Int} {hp hp' hp'' : List AO}
theorem Sc.ie (S : Sc w p rows ks hp) : w.i ≠ w.e := ne_of S.s S.e fun h => by
  injection h with h1 h2
  exact absurd h1 (by decide)
theorem Sc.ir (S : Sc w p rows ks hp) : w.i ≠ w.r := ne_of S.s S.r fun h => by cases h
theorem Sc.id (S : Sc w p rows ks hp) : w.i ≠ w.d := ne_of S.s S.d fun h => by cases h
theorem Sc.er (S : Sc w p rows ks hp) : w.e ≠ w.r := ne_of S.e S.r fun h => by cases h
theorem Sc.ed (S : Sc w p rows ks hp) : w.e ≠ w.d := ne_of S.e S.d fun h => by cases h
theorem Sc.rd (S : Sc w p rows ks hp) : w.r ≠ w.d := ne_of S.r S.d fun h => by cases h
noncomputable def Nx (w : Wd) (hp hp' : List AO) : Prop := hp.length ≤ hp'.length ∧ ∀ j, j < hp.length → j ≠ w.i → j ≠ w.r → j ≠ w.d → hp'[j]? = hp[j]?
theorem Nx.refl : Nx w hp hp := ⟨Nat.le_refl _, fun _ _ _ _ _ => rfl⟩
theorem Nx.trans (a : Nx w hp hp') (b : Nx w hp' hp'') : Nx w hp hp'' := ⟨Nat.le_trans a.1 b.1, fun j h1 h2 h3 h4 => (b.2 j (Nat.lt_of_lt_of_le h1 a.1) h2 h3 h4).trans (a.2 j h1 h2 h3 h4)⟩
theorem Nx.push {o : AO} : Nx w hp (hp ++ [o]) := ⟨by simp, fun j h _ _ _ => by rw [List.getElem?_append_left h]⟩
theorem Nx.set {j : Nat} {o : AO} (h : j = w.i ∨ j = w.r ∨ j = w.d) : Nx w hp (hp.set j o) := ⟨by simp, fun k h1 h2 h3 h4 => by
  rw [List.getElem?_set_ne (fun e => by subst e; rcases h with h | h | h <;> contradiction)]⟩
theorem Sc.go (S : Sc w p rows ks hp) (q : Nat) : Sc w q rows ks (hp.set w.i (scn w.x w.e (q : Int))) := ⟨set_same S.s, set_other S.e S.ie, set_other S.r S.ir, set_other S.d S.id, S.sz⟩
theorem Sc.push (S : Sc w p rows ks hp) (o : AO) : Sc w p rows ks (hp ++ [o]) := ⟨push_same S.s, push_same S.e, push_same S.r, push_same S.d, S.sz⟩
theorem Sc.mk' (S : Sc w p rows ks hp) (k : Int) (v : AV) : Sc w p (rows ++ [v]) (k :: ks) ((hp.set w.d (.dict (k :: ks))).set w.r (.list (rows ++ [v]))) :=
  ⟨set_other (set_other S.s (Ne.symm S.id)) (Ne.symm S.ir), set_other (set_other S.e (Ne.symm S.ed)) (Ne.symm S.er), set_same (set_other S.r (Ne.symm S.rd)), set_other (set_same S.d) S.rd, S.sz⟩
noncomputable def plc (w : Wd) (st : ASt) : Nat := match st.heap[w.i]? with
  | some (.inst _ ((_, _) :: (_, _) :: (_, .int p) :: _)) => p.toNat
  | _ => 0
theorem Sc.plc {env : List (Option AV)} (S : Sc w p rows ks hp) : plc w ⟨env, hp⟩ = p := by simp [Mine.plc, S.s, scn]
end
section
variable {G : Gl} {n : Nat} {hp : List AO} {w : Wd} {p : Nat} {rows : List AV} {ks : List Int} {P : AV → List AO → Prop}
theorem c_char (O : Ok G) (hn : 1 ≤ n) (S : Sc w p rows ks hp) (h : P (.str (oc w.x.cps.toList[p]?)) hp) : TF G n aChar [.obj w.i] hp P := by
  obtain ⟨Pm, hk⟩ := O.hk
  refine (f_char hk).at O.tab 0 hn rfl ?_
  unfold ir_Scanner_char
  refine sq_ret ?_
  simp only [vE, vT, vA, onLoc, onStr, onLst, onInt, onTup, onList, onB, Bin, small, goOn, retOf, turnEnd, List.map_cons, List.map_nil, List.append_nil, List.cons_append, List.nil_append, List.replicate, List.getElem?_cons_zero, List.getElem?_cons_succ, List.set_cons_zero, List.set_cons_succ, List.length_cons, List.length_nil, List.length_append, Nat.zero_add, Nat.reduceAdd, Nat.add_zero, at_src S.s, at_plc S.s, Slc]
  refine ⟨Nat.le_trans S.sz (by decide), ?_⟩
  rw [show (p : Int) + 0 = (p : Int) by omega, slice_one]
  exact h
theorem c_char1 (O : Ok G) (hn : 1 ≤ n) (S : Sc w p rows ks hp) (h : P (.str (oc w.x.cps.toList[p + 1]?)) hp) : TF G n aChar [.obj w.i, .int 1] hp P := by
  obtain ⟨Pm, hk⟩ := O.hk
  refine (f_char1 hk).at O.tab 0 hn rfl ?_
  unfold ir_Scanner_char
  refine sq_ret ?_
  simp only [vE, vT, vA, onLoc, onStr, onLst, onInt, onTup, onList, onB, Bin, small, goOn, retOf, turnEnd, List.map_cons, List.map_nil, List.append_nil, List.cons_append, List.nil_append, List.replicate, List.getElem?_cons_zero, List.getElem?_cons_succ, List.set_cons_zero, List.set_cons_succ, List.length_cons, List.length_nil, List.length_append, Nat.zero_add, Nat.reduceAdd, Nat.add_zero, at_src S.s, at_plc S.s, Slc]
  refine ⟨Nat.le_trans S.sz (by decide), ?_⟩
  rw [show (p : Int) + 1 = ((p + 1 : Nat) : Int) by omega, slice_one]
  exact h
noncomputable def isDig (o : Option Nat) : Bool := match o with
  | some c => decide (48 ≤ c) && decide (c ≤ 57)
  | none => false
noncomputable def isLet (o : Option Nat) : Bool := match o with
  | some c => decide (97 ≤ c) && decide (c ≤ 122) || decide (65 ≤ c) && decide (c ≤ 90)
  | none => false
noncomputable def isHex (o : Option Nat) : Bool := match o with
  | some c => decide (48 ≤ c) && decide (c ≤ 57) || decide (65 ≤ c) && decide (c ≤ 70)
  | none => false
theorem le_oc (c : Nat) (o : Option Nat) : (!decide ((oc o).cps.toList < [c])) = match o with | some d => decide (c ≤ d) | none => false := by
  cases o with
  | none => simp [oc]
  | some d =>
    by_cases h : c ≤ d
    · have : ¬ d < c := by omega
      simp [oc, List.cons_lt_cons_iff, h, this]
    · have : d < c := by omega
      simp [oc, List.cons_lt_cons_iff, h, this]
theorem oc_le (c : Nat) (o : Option Nat) : (!decide ([c] < (oc o).cps.toList)) = match o with | some d => decide (d ≤ c) | none => true := by
  cases o with
  | none => simp [oc]
  | some d =>
    by_cases h : d ≤ c
    · have : ¬ c < d := by omega
      simp [oc, List.cons_lt_cons_iff, h, this]
    · have : c < d := by omega
      simp [oc, List.cons_lt_cons_iff, h, this]
theorem s_0 : (PySem.Str.ofString "0").cps.toList = [48] := by decide
theorem s_9 : (PySem.Str.ofString "9").cps.toList = [57] := by decide
theorem s_a : (PySem.Str.ofString "a").cps.toList = [97] := by decide
theorem s_z : (PySem.Str.ofString "z").cps.toList = [122] := by decide
theorem s_A : (PySem.Str.ofString "A").cps.toList = [65] := by decide
theorem s_Z : (PySem.Str.ofString "Z").cps.toList = [90] := by decide
theorem s_F : (PySem.Str.ofString "F").cps.toList = [70] := by decide
theorem c_is_digit (O : Ok G) (hn : 1 ≤ n) (o : Option Nat) (h : P (.bool (isDig o)) hp) : TF G n aIsDigit [.str (oc o)] hp P := by
  obtain ⟨Pm, hk⟩ := O.hk
  refine (f_is_digit hk).at O.tab 0 hn rfl ?_
  unfold ir_is_digit
  refine sq_ret ?_
  simp only [vE, vT, vA, onLoc, onStr, onLst, onInt, onTup, onList, onB, Bin, small, goOn, retOf, turnEnd, List.map_cons, List.map_nil, List.append_nil, List.cons_append, List.nil_append, List.replicate, List.getElem?_cons_zero, List.getElem?_cons_succ, List.set_cons_zero, List.set_cons_succ, List.length_cons, List.length_nil, List.length_append, Nat.zero_add, Nat.reduceAdd, Nat.add_zero, Cmp, s_0, s_9, le_oc, oc_le]
  cases o with
  | none => exact ⟨fun e => by simp at e, fun _ => h⟩
  | some c =>
    refine ⟨fun e => ?_, fun e => ?_⟩
    · simpa only [isDig, e, Bool.true_and] using h
    · simpa only [isDig, e, Bool.false_and] using h
theorem c_is_letter (O : Ok G) (hn : 1 ≤ n) (o : Option Nat) (h : P (.bool (isLet o)) hp) : TF G n aIsLetter [.str (oc o)] hp P := by
  obtain ⟨Pm, hk⟩ := O.hk
  refine (f_is_letter hk).at O.tab 0 hn rfl ?_
  unfold ir_is_letter
  refine sq_ret ?_
  simp only [vE, vT, vA, onLoc, onStr, onLst, onInt, onTup, onList, onB, Bin, small, goOn, retOf, turnEnd, List.map_cons, List.map_nil, List.append_nil, List.cons_append, List.nil_append, List.replicate, List.getElem?_cons_zero, List.getElem?_cons_succ, List.set_cons_zero, List.set_cons_succ, List.length_cons, List.length_nil, List.length_append, Nat.zero_add, Nat.reduceAdd, Nat.add_zero, Cmp, s_a, s_z, s_A, s_Z, le_oc, oc_le]
  cases o with
  | none => simpa [fork, isLet] using h
  | some c =>
    simp only [isLet] at h
    simp only [fork]
    revert h
    generalize decide (97 ≤ c) = x1, decide (c ≤ 122) = x2, decide (65 ≤ c) = x3, decide (c ≤ 90) = x4
    clear hk hn O
    intro h
    cases x1 <;> cases x2 <;> cases x3 <;> cases x4 <;> simpa using h
theorem c_is_hex (O : Ok G) (hn : 2 ≤ n) (o : Option Nat) (h : P (.bool (isHex o)) hp) : TF G n aIsHexDigit [.str (oc o)] hp P := by
  obtain ⟨Pm, hk⟩ := O.hk
  refine (f_is_hex_digit hk).at O.tab 1 hn rfl ?_
  unfold ir_is_hex_digit
  refine sq_ret ?_
  simp only [vE, vT, vA, onLoc, onStr, onLst, onInt, onTup, onList, onB, Bin, small, goOn, retOf, turnEnd, List.map_cons, List.map_nil, List.append_nil, List.cons_append, List.nil_append, List.replicate, List.getElem?_cons_zero, List.getElem?_cons_succ, List.set_cons_zero, List.set_cons_succ, List.length_cons, List.length_nil, List.length_append, Nat.zero_add, Nat.reduceAdd, Nat.add_zero, Cmp, s_A, s_F, le_oc, oc_le]
  refine c_is_digit O (Nat.le_refl 1) o ?_
  cases o with
  | none => simpa [fork, isHex, isDig] using h
  | some c =>
    simp only [isHex] at h
    simp only [fork, isDig]
    revert h
    generalize decide (48 ≤ c) = x1, decide (c ≤ 57) = x2, decide (65 ≤ c) = x3, decide (c ≤ 70) = x4
    clear hk hn O
    intro h
    cases x1 <;> cases x2 <;> cases x3 <;> cases x4 <;> simpa using h
theorem c_token (O : Ok G) (hn : 1 ≤ n) {k v : AV} {q : Int} (h : P (.obj hp.length) (hp ++ [tok k v q])) : TF G n aToken [k, v, .int q] hp P := by
  obtain ⟨Pm, hk⟩ := O.hk
  refine (k_Token hk).at O.tab 0 hn rfl ?_
  unfold ir_Token___init__
  have m4 : (aToken, 4) ∈ G.ct := by rw [O.ct]; decide
  have m5 : (aToken, 5) ∈ G.ct := by rw [O.ct]; decide
  have m2 : (aToken, 2) ∈ G.ct := by rw [O.ct]; decide
  refine sq_setA ?_
  simp only [vE, vT, vA, onLoc, onStr, onLst, onInt, onTup, onList, onB, Bin, small, goOn, retOf, turnEnd, List.map_cons, List.map_nil, List.append_nil, List.cons_append, List.nil_append, List.replicate, List.getElem?_cons_zero, List.getElem?_cons_succ, List.set_cons_zero, List.set_cons_succ, List.length_cons, List.length_nil, List.length_append, Nat.zero_add, Nat.reduceAdd, Nat.add_zero, SetAttr]
  simp only [List.getElem?_concat_length, List.contains_eq_mem, m4, decide_true, List.length_nil, putA, List.set_append_right, Nat.le_refl, Nat.sub_self, List.set_cons_zero, Nat.zero_le, true_and]
  refine sq_setA ?_
  simp only [vE, vT, vA, onLoc, onStr, onLst, onInt, onTup, onList, onB, Bin, small, goOn, retOf, turnEnd, List.map_cons, List.map_nil, List.append_nil, List.cons_append, List.nil_append, List.replicate, List.getElem?_cons_zero, List.getElem?_cons_succ, List.set_cons_zero, List.set_cons_succ, List.length_cons, List.length_nil, List.length_append, Nat.zero_add, Nat.reduceAdd, Nat.add_zero, SetAttr]
  simp [m5, putA]
  refine sq_setA ?_
  simp only [vE, vT, vA, onLoc, onStr, onLst, onInt, onTup, onList, onB, Bin, small, goOn, retOf, turnEnd, List.map_cons, List.map_nil, List.append_nil, List.cons_append, List.nil_append, List.replicate, List.getElem?_cons_zero, List.getElem?_cons_succ, List.set_cons_zero, List.set_cons_succ, List.length_cons, List.length_nil, List.length_append, Nat.zero_add, Nat.reduceAdd, Nat.add_zero, SetAttr]
  simp [m2, putA]
  refine sq_skip ?_
  exact ⟨rfl, h⟩
end
end Mine
end
section
set_option maxRecDepth 20000
namespace Mine
noncomputable def sl (l : List Nat) : Str := ⟨l.toArray⟩
theorem sl_list (l : List Nat) : (sl l).cps.toList = l := by simp [sl]
theorem sl_length (l : List Nat) : (sl l).length = l.length := by simp [sl, Str.length]
theorem slice_sl (x : Str) (i j : Nat) (h : i ≤ j) : Txt.slice x (some (i : Int)) (some (j : Int)) = sl ((x.cps.toList.drop i).take (j - i)) := slice_nat x i j h
theorem at_len {hp : List AO} {a : AO} {t : List AO} : (hp ++ a :: t)[hp.length]? = some a := by simp
theorem set_len {hp : List AO} {a x : AO} {t : List AO} : (hp ++ a :: t).set hp.length x = hp ++ x :: t := by simp
theorem len_cons2 {hp : List AO} {a : AO} : (hp ++ [a]).length = hp.length + 1 := by simp
section
variable {G : Gl} {n : Nat} {hp : List AO} {w : Wd} {p : Nat} {rows : List AV} {ks : List Int} {P : AV → List AO → Prop}
theorem c_keywords (O : Ok G) (hn : 1 ≤ n) (h : P (.tup (sv kwl)) hp) : TF G n aKeywords [] hp P := by
  obtain ⟨Pm, hk⟩ := O.hk
  refine (f_keywords hk).at O.tab 0 hn rfl ?_
  unfold ir_keywords
  refine sq_ret ?_
  simp only [vE, vT, vA, onLoc, onStr, onLst, onInt, onTup, onList, onB, Bin, small, goOn, retOf, turnEnd, List.map_cons, List.map_nil, List.append_nil, List.cons_append, List.nil_append, List.replicate, List.getElem?_cons_zero, List.getElem?_cons_succ, List.set_cons_zero, List.set_cons_succ, List.length_cons, List.length_nil, List.length_append, Nat.zero_add, Nat.reduceAdd, Nat.add_zero]
  exact ⟨by decide, h⟩
theorem c_errors (O : Ok G) (hn : 1 ≤ n) (h : P (.obj hp.length) (hp ++ [erl (hp.length + 1) (hp.length + 2), .list [], .dict []])) : TF G n aErrorList [] hp P := by
  obtain ⟨Pm, hk⟩ := O.hk
  refine (k_ErrorList hk).at O.tab 0 hn rfl ?_
  unfold ir_ErrorList___init__
  have m6 : G.ct.contains (aErrorList, 6) = true := by rw [O.ct]; decide
  have m7 : G.ct.contains (aErrorList, 7) = true := by rw [O.ct]; decide
  refine sq_setA ?_
  simp only [vE, vT, vA, onLoc, onStr, onLst, onInt, onTup, onList, onB, Bin, small, goOn, retOf, turnEnd, List.map_cons, List.map_nil, List.append_nil, List.cons_append, List.nil_append, List.replicate, List.getElem?_cons_zero, List.getElem?_cons_succ, List.set_cons_zero, List.set_cons_succ, List.length_cons, List.length_nil, List.length_append, Nat.zero_add, Nat.reduceAdd, Nat.add_zero, SetAttr, List.append_assoc, at_len, set_len, m6, putA]
  refine ⟨by decide, by decide, ?_⟩
  refine sq_setA ?_
  simp only [vE, vT, vA, onLoc, onStr, onLst, onInt, onTup, onList, onB, Bin, small, goOn, retOf, turnEnd, List.map_cons, List.map_nil, List.append_nil, List.cons_append, List.nil_append, List.replicate, List.getElem?_cons_zero, List.getElem?_cons_succ, List.set_cons_zero, List.set_cons_succ, List.length_cons, List.length_nil, List.length_append, Nat.zero_add, Nat.reduceAdd, Nat.add_zero, SetAttr, List.append_assoc, at_len, set_len, m7, putA]
  refine ⟨by decide, ?_⟩
  refine sq_skip ?_
  simp only [vE, vT, vA, onLoc, onStr, onLst, onInt, onTup, onList, onB, Bin, small, goOn, retOf, turnEnd, List.map_cons, List.map_nil, List.append_nil, List.cons_append, List.nil_append, List.replicate, List.getElem?_cons_zero, List.getElem?_cons_succ, List.set_cons_zero, List.set_cons_succ, List.length_cons, List.length_nil, List.length_append, Nat.zero_add, Nat.reduceAdd, Nat.add_zero, reduceCtorEq, ite_false, if_neg (show ¬ (6 : Nat) = 7 by decide), putA, true_and]
  exact h
theorem c_scanner (O : Ok G) (hn : 2 ≤ n) {x : Str} {e : Nat} (h : P (.obj hp.length) (hp ++ [scn x e 0])) : TF G n aScanner [.str x, .obj e] hp P := by
  obtain ⟨Pm, hk⟩ := O.hk
  refine (k_Scanner hk).at O.tab 1 hn rfl ?_
  unfold ir_Scanner___init__
  have m0 : G.ct.contains (aScanner, 0) = true := by rw [O.ct]; decide
  have m1 : G.ct.contains (aScanner, 1) = true := by rw [O.ct]; decide
  have m2 : G.ct.contains (aScanner, 2) = true := by rw [O.ct]; decide
  have m3 : G.ct.contains (aScanner, 3) = true := by rw [O.ct]; decide
  refine sq_setA ?_
  simp only [vE, vT, vA, onLoc, onStr, onLst, onInt, onTup, onList, onB, Bin, small, goOn, retOf, turnEnd, List.map_cons, List.map_nil, List.append_nil, List.cons_append, List.nil_append, List.replicate, List.getElem?_cons_zero, List.getElem?_cons_succ, List.set_cons_zero, List.set_cons_succ, List.length_cons, List.length_nil, List.length_append, Nat.zero_add, Nat.reduceAdd, Nat.add_zero, SetAttr, List.append_assoc, at_len, set_len, m0, putA]
  refine ⟨by decide, ?_⟩
  refine sq_setA ?_
  simp only [vE, vT, vA, onLoc, onStr, onLst, onInt, onTup, onList, onB, Bin, small, goOn, retOf, turnEnd, List.map_cons, List.map_nil, List.append_nil, List.cons_append, List.nil_append, List.replicate, List.getElem?_cons_zero, List.getElem?_cons_succ, List.set_cons_zero, List.set_cons_succ, List.length_cons, List.length_nil, List.length_append, Nat.zero_add, Nat.reduceAdd, Nat.add_zero, SetAttr, List.append_assoc, at_len, set_len, m1, putA]
  refine ⟨⟨trivial, by simp [putA]⟩, ?_⟩
  refine sq_setA ?_
  simp only [vE, vT, vA, onLoc, onStr, onLst, onInt, onTup, onList, onB, Bin, small, goOn, retOf, turnEnd, List.map_cons, List.map_nil, List.append_nil, List.cons_append, List.nil_append, List.replicate, List.getElem?_cons_zero, List.getElem?_cons_succ, List.set_cons_zero, List.set_cons_succ, List.length_cons, List.length_nil, List.length_append, Nat.zero_add, Nat.reduceAdd, Nat.add_zero, SetAttr, List.append_assoc, at_len, set_len, m2, putA]
  refine ⟨⟨trivial, by simp [putA]⟩, ?_⟩
  refine sq_setA ?_
  simp only [vE, vT, vA, onLoc, onStr, onLst, onInt, onTup, onList, onB, Bin, small, goOn, retOf, turnEnd, List.map_cons, List.map_nil, List.append_nil, List.cons_append, List.nil_append, List.replicate, List.getElem?_cons_zero, List.getElem?_cons_succ, List.set_cons_zero, List.set_cons_succ, List.length_cons, List.length_nil, List.length_append, Nat.zero_add, Nat.reduceAdd, Nat.add_zero]
  refine c_keywords O (Nat.le_refl 1) ?_
  simp only [vE, vT, vA, onLoc, onStr, onLst, onInt, onTup, onList, onB, Bin, small, goOn, retOf, turnEnd, List.map_cons, List.map_nil, List.append_nil, List.cons_append, List.nil_append, List.replicate, List.getElem?_cons_zero, List.getElem?_cons_succ, List.set_cons_zero, List.set_cons_succ, List.length_cons, List.length_nil, List.length_append, Nat.zero_add, Nat.reduceAdd, Nat.add_zero, SetAttr, List.append_assoc, at_len, set_len, m3, putA]
  refine ⟨⟨trivial, by simp [putA]⟩, ?_⟩
  refine sq_skip ⟨rfl, ?_⟩
  exact h
theorem c_mark (O : Ok G) (hn : 1 ≤ n) (S : Sc w p rows ks hp) {q : Int} {code : Str} (hk : ks.contains q = false) (h1 : rows.length ≤ 1000) (h2 : ks.length ≤ 1000)
    (h : ∀ hp', Sc w p (rows ++ [.tup [.int q, .str code]]) (q :: ks) hp' → Nx w hp hp' → hp'.length = hp.length → P .none hp') : TF G n aMark [.obj w.e, .int q, .str code] hp P := by
  obtain ⟨Pm, hK⟩ := O.hk
  refine (f_ErrorList_mark hK).at O.tab 0 hn rfl ?_
  unfold ir_ErrorList_mark
  refine sq_ife ?_
  simp only [vE, vT, vA, onLoc, onStr, onLst, onInt, onTup, onList, onB, Bin, small, goOn, retOf, turnEnd, List.map_cons, List.map_nil, List.append_nil, List.cons_append, List.nil_append, List.replicate, List.getElem?_cons_zero, List.getElem?_cons_succ, List.set_cons_zero, List.set_cons_succ, List.length_cons, List.length_nil, List.length_append, Nat.zero_add, Nat.reduceAdd, Nat.add_zero, at_plcs S.e, Cmp, S.d, hk, Bool.not_false]
  refine ⟨fun _ => ?_, fun e => by simp at e⟩
  refine sq_setI ?_
  simp only [vE, vT, vA, onLoc, onStr, onLst, onInt, onTup, onList, onB, Bin, small, goOn, retOf, turnEnd, List.map_cons, List.map_nil, List.append_nil, List.cons_append, List.nil_append, List.replicate, List.getElem?_cons_zero, List.getElem?_cons_succ, List.set_cons_zero, List.set_cons_succ, List.length_cons, List.length_nil, List.length_append, Nat.zero_add, Nat.reduceAdd, Nat.add_zero, at_plcs S.e, SetItem, SetKey, S.d]
  refine ⟨⟨⟨_, rfl⟩, Nat.le_trans h2 (by decide)⟩, ?_⟩
  refine sq_exp ?_
  have S' := S.mk' q (.tup [.int q, .str code])
  simp only [vE, vT, vA, onLoc, onStr, onLst, onInt, onTup, onList, onB, Bin, small, goOn, retOf, turnEnd, List.map_cons, List.map_nil, List.append_nil, List.cons_append, List.nil_append, List.replicate, List.getElem?_cons_zero, List.getElem?_cons_succ, List.set_cons_zero, List.set_cons_succ, List.length_cons, List.length_nil, List.length_append, Nat.zero_add, Nat.reduceAdd, Nat.add_zero, at_row (set_other S.e (Ne.symm S.ed) : (hp.set w.d (AO.dict (q :: ks)))[w.e]? = _), App, (set_other S.r (Ne.symm S.rd) : (hp.set w.d (AO.dict (q :: ks)))[w.r]? = _)]
  refine ⟨by decide, Nat.le_trans (Nat.succ_le_succ h1) (by decide), ?_⟩
  refine sq_skip ?_
  simp only [vE, vT, vA, onLoc, onStr, onLst, onInt, onTup, onList, onB, Bin, small, goOn, retOf, turnEnd, List.map_cons, List.map_nil, List.append_nil, List.cons_append, List.nil_append, List.replicate, List.getElem?_cons_zero, List.getElem?_cons_succ, List.set_cons_zero, List.set_cons_succ, List.length_cons, List.length_nil, List.length_append, Nat.zero_add, Nat.reduceAdd, Nat.add_zero]
  refine sq_skip ?_
  refine h _ S' (.trans (.set (.inr (.inr rfl))) (.set (.inr (.inl rfl)))) (by simp)
end
end Mine
end
section
set_option maxRecDepth 20000
namespace Mine
noncomputable def hexc : List Nat := [48, 49, 50, 51, 52, 53, 54, 55, 56, 57, 65, 66, 67, 68, 69, 70]
noncomputable def dgt (c : Nat) : Nat := if c ≤ 57 then c - 48 else c - 55
noncomputable def hx (c : Nat) : Bool := isHex (some c)
noncomputable def dg (c : Nat) : Bool := isDig (some c)
theorem hx_all : ∀ c ∈ List.range 128, hx c = true → c ∈ hexc := by decide +kernel
theorem hx_mem {c : Nat} (h : hx c = true) : c ∈ hexc := by
  refine hx_all c (List.mem_range.mpr ?_) h
  simp only [hx, isHex, Bool.or_eq_true, Bool.and_eq_true, decide_eq_true_eq] at h
  omega
theorem dg_hx {c : Nat} (h : dg c = true) : hx c = true := by
  simp only [dg, isDig, Bool.and_eq_true, decide_eq_true_eq] at h
  simp only [hx, isHex, Bool.or_eq_true, Bool.and_eq_true, decide_eq_true_eq]
  omega
theorem find_hex : ∀ c ∈ hexc, Txt.find "0123456789ABCDEF" ⟨#[c]⟩ = (dgt c : Int) := by decide +kernel
theorem idx_hex : ∀ c ∈ hexc, (Builtin.Str.occurrences "0123456789ABCDEF" ⟨#[c]⟩ 0 (PySem.Str.ofString "0123456789ABCDEF").length 1).isEmpty = false := by decide +kernel
theorem dgt_lt {c : Nat} (h : c ∈ hexc) : dgt c < 16 := by
  revert c; decide
noncomputable def tot (b : Nat) (ds : List Nat) : Nat := ds.foldl (fun a c => a * b + dgt c) 0
theorem tot_snoc {b c : Nat} {ds : List Nat} : tot b (ds ++ [c]) = tot b ds * b + dgt c := by simp [tot]
theorem fold_ge {b : Nat} (hb : 1 ≤ b) : ∀ (r : List Nat) (a : Nat), a ≤ r.foldl (fun a c => a * b + dgt c) a
  | [], _ => Nat.le_refl _
  | c :: r, a => Nat.le_trans (Nat.le_trans (Nat.le_mul_of_pos_right a hb) (Nat.le_add_right _ _)) (fold_ge hb r _)
theorem tot_take {b : Nat} (hb : 1 ≤ b) (ds : List Nat) (k : Nat) : tot b (ds.take k) ≤ tot b ds := by
  have := fold_ge hb (ds.drop k) (tot b (ds.take k))
  unfold tot at this ⊢
  rw [← List.foldl_append, List.take_append_drop] at this
  exact this
theorem take_succ_get {α : Type} {l : List α} {k : Nat} {a : α} (h : l[k]? = some a) : l.take (k + 1) = l.take k ++ [a] := by
  rw [List.take_succ, h]; rfl
noncomputable def dv (b most : Nat) (ds : List Nat) : Nat := if tot b ds ≤ most then tot b ds else most + 1
theorem mul_ok {a b : Nat} (h1 : a ≤ 2 ^ 60) (h2 : b ≤ 16) : IntMulOk (a : Int) (b : Int) := IntMulOk.of_right (intBits_le_64 (by omega) (by omega))
section
variable {G : Gl} {n : Nat} {hp : List AO} {w : Wd} {p : Nat} {rows : List AV} {ks : List Int} {P : AV → List AO → Prop}
theorem c_digits (O : Ok G) (hn : 1 ≤ n) {ds : List Nat} {b most : Nat} (hd : ∀ c ∈ ds, hx c = true) (hb : 1 ≤ b) (hb' : b ≤ 16) (hm : most ≤ 2 ^ 60) (h : P (.int (dv b most ds : Nat)) hp) : TF G n aDigitsValue [.str (sl ds), .int b, .int most] hp P := by
  obtain ⟨Pm, hk⟩ := O.hk
  refine (f_digits_value hk).at O.tab 0 hn rfl ?_
  unfold ir_digits_value
  refine sq_set ?_
  simp only [vE, vT, vA, onLoc, onStr, onLst, onInt, onTup, onList, onB, Bin, small, goOn, retOf, turnEnd, List.map_cons, List.map_nil, List.append_nil, List.cons_append, List.nil_append, List.replicate, List.getElem?_cons_zero, List.getElem?_cons_succ, List.set_cons_zero, List.set_cons_succ, List.length_cons, List.length_nil, List.length_append, Nat.zero_add, Nat.reduceAdd, Nat.add_zero]
  refine sq_forS ?_
  simp only [vE, vT, vA, onLoc, onStr, onLst, onInt, onTup, onList, onB, Bin, small, goOn, retOf, turnEnd, List.map_cons, List.map_nil, List.append_nil, List.cons_append, List.nil_append, List.replicate, List.getElem?_cons_zero, List.getElem?_cons_succ, List.set_cons_zero, List.set_cons_succ, List.length_cons, List.length_nil, List.length_append, Nat.zero_add, Nat.reduceAdd, Nat.add_zero]
  refine ⟨fun k st => tot b (ds.take k) ≤ most ∧ ∃ o, st = ⟨[some (.str (sl ds)), some (.int b), some (.int most), some (.int (tot b (ds.take k) : Nat)), o], hp⟩, ⟨Nat.zero_le _, _, rfl⟩, ?_, ?_⟩
  · intro k a ha st1 hi
    obtain ⟨hle, o, rfl⟩ := hi
    rw [sl_list, List.getElem?_map] at ha
    obtain ⟨c, hc, rfl⟩ := Option.map_eq_some_iff.mp ha
    have hcm : c ∈ hexc := hx_mem (hd c (List.mem_of_getElem? hc))
    refine sq_set ?_
    simp only [vE, vT, vA, onLoc, onStr, onLst, onInt, onTup, onList, onB, Bin, small, goOn, retOf, turnEnd, List.map_cons, List.map_nil, List.append_nil, List.cons_append, List.nil_append, List.replicate, List.getElem?_cons_zero, List.getElem?_cons_succ, List.set_cons_zero, List.set_cons_succ, List.length_cons, List.length_nil, List.length_append, Nat.zero_add, Nat.reduceAdd, Nat.add_zero, Find, find_hex c hcm]
    refine ⟨mul_ok (Nat.le_trans hle hm) hb', ?_⟩
    have e : (tot b (ds.take k) : Int) * (b : Int) + (dgt c : Int) = ((tot b (ds.take (k + 1)) : Nat) : Int) := by rw [take_succ_get hc, tot_snoc]; simp
    rw [e]
    refine sq_ife ?_
    simp only [vE, vT, vA, onLoc, onStr, onLst, onInt, onTup, onList, onB, Bin, small, goOn, retOf, turnEnd, List.map_cons, List.map_nil, List.append_nil, List.cons_append, List.nil_append, List.replicate, List.getElem?_cons_zero, List.getElem?_cons_succ, List.set_cons_zero, List.set_cons_succ, List.length_cons, List.length_nil, List.length_append, Nat.zero_add, Nat.reduceAdd, Nat.add_zero, Cmp]
    refine ⟨fun ht => ?_, fun hf => ?_⟩
    · refine sq_ret ?_
      simp only [vE, vT, vA, onLoc, onStr, onLst, onInt, onTup, onList, onB, Bin, small, goOn, retOf, turnEnd, List.map_cons, List.map_nil, List.append_nil, List.cons_append, List.nil_append, List.replicate, List.getElem?_cons_zero, List.getElem?_cons_succ, List.set_cons_zero, List.set_cons_succ, List.length_cons, List.length_nil, List.length_append, Nat.zero_add, Nat.reduceAdd, Nat.add_zero]
      have ht := of_decide_eq_true ht
      have := tot_take hb ds (k + 1)
      have e : dv b most ds = most + 1 := if_neg (by omega)
      rw [e] at h
      exact h
    · refine sq_skip ?_
      simp only [vE, vT, vA, onLoc, onStr, onLst, onInt, onTup, onList, onB, Bin, small, goOn, retOf, turnEnd, List.map_cons, List.map_nil, List.append_nil, List.cons_append, List.nil_append, List.replicate, List.getElem?_cons_zero, List.getElem?_cons_succ, List.set_cons_zero, List.set_cons_succ, List.length_cons, List.length_nil, List.length_append, Nat.zero_add, Nat.reduceAdd, Nat.add_zero]
      refine sq_skip ?_
      have hf := of_decide_eq_false hf
      exact ⟨by omega, _, rfl⟩
  · intro st1 hi
    rw [List.length_map, sl_list, List.take_length] at hi
    obtain ⟨hle, o, rfl⟩ := hi
    simp only [vE, vT, vA, onLoc, onStr, onLst, onInt, onTup, onList, onB, Bin, small, goOn, retOf, turnEnd, List.map_cons, List.map_nil, List.append_nil, List.cons_append, List.nil_append, List.replicate, List.getElem?_cons_zero, List.getElem?_cons_succ, List.set_cons_zero, List.set_cons_succ, List.length_cons, List.length_nil, List.length_append, Nat.zero_add, Nat.reduceAdd, Nat.add_zero]
    refine sq_ret ?_
    simp only [vE, vT, vA, onLoc, onStr, onLst, onInt, onTup, onList, onB, Bin, small, goOn, retOf, turnEnd, List.map_cons, List.map_nil, List.append_nil, List.cons_append, List.nil_append, List.replicate, List.getElem?_cons_zero, List.getElem?_cons_succ, List.set_cons_zero, List.set_cons_succ, List.length_cons, List.length_nil, List.length_append, Nat.zero_add, Nat.reduceAdd, Nat.add_zero]
    rw [show dv b most ds = tot b ds from if_pos hle] at h
    exact h
theorem c_whole (O : Ok G) (hn : 2 ≤ n) (S : Sc w p rows ks hp) {b v most : Int} (hk : ks.contains b = false) (hr : rows.length ≤ 1000) (hl : ks.length ≤ 1000)
    (h1 : v ≤ most → P (.obj hp.length) (hp ++ [tok (.str "int") (.int v) b]))
    (h2 : most < v → ∀ hp', Sc w p (rows ++ [.tup [.int b, .str "number_too_large"]]) (b :: ks) hp' → Nx w hp hp' → hp'.length = hp.length → P (.obj hp.length) (hp' ++ [tok (.str "int") (.int 0) b])) :
    TF G n aWhole [.obj w.i, .int b, .int v, .int most] hp P := by
  obtain ⟨Pm, hK⟩ := O.hk
  refine (f_Scanner_whole hK).at O.tab 1 hn rfl ?_
  unfold ir_Scanner_whole
  refine sq_ife ?_
  simp only [vE, vT, vA, onLoc, onStr, onLst, onInt, onTup, onList, onB, Bin, small, goOn, retOf, turnEnd, List.map_cons, List.map_nil, List.append_nil, List.cons_append, List.nil_append, List.replicate, List.getElem?_cons_zero, List.getElem?_cons_succ, List.set_cons_zero, List.set_cons_succ, List.length_cons, List.length_nil, List.length_append, Nat.zero_add, Nat.reduceAdd, Nat.add_zero, Cmp]
  refine ⟨fun ht => ?_, fun hf => ?_⟩
  · refine sq_exp ?_
    simp only [vE, vT, vA, onLoc, onStr, onLst, onInt, onTup, onList, onB, Bin, small, goOn, retOf, turnEnd, List.map_cons, List.map_nil, List.append_nil, List.cons_append, List.nil_append, List.replicate, List.getElem?_cons_zero, List.getElem?_cons_succ, List.set_cons_zero, List.set_cons_succ, List.length_cons, List.length_nil, List.length_append, Nat.zero_add, Nat.reduceAdd, Nat.add_zero, at_err S.s, on_erl S.e]
    refine c_mark O (Nat.le_refl 1) S hk hr hl fun hp' S' N' L' => ?_
    refine sq_set ?_
    simp only [vE, vT, vA, onLoc, onStr, onLst, onInt, onTup, onList, onB, Bin, small, goOn, retOf, turnEnd, List.map_cons, List.map_nil, List.append_nil, List.cons_append, List.nil_append, List.replicate, List.getElem?_cons_zero, List.getElem?_cons_succ, List.set_cons_zero, List.set_cons_succ, List.length_cons, List.length_nil, List.length_append, Nat.zero_add, Nat.reduceAdd, Nat.add_zero]
    refine sq_skip ?_
    simp only [vE, vT, vA, onLoc, onStr, onLst, onInt, onTup, onList, onB, Bin, small, goOn, retOf, turnEnd, List.map_cons, List.map_nil, List.append_nil, List.cons_append, List.nil_append, List.replicate, List.getElem?_cons_zero, List.getElem?_cons_succ, List.set_cons_zero, List.set_cons_succ, List.length_cons, List.length_nil, List.length_append, Nat.zero_add, Nat.reduceAdd, Nat.add_zero]
    refine sq_ret ?_
    simp only [vE, vT, vA, onLoc, onStr, onLst, onInt, onTup, onList, onB, Bin, small, goOn, retOf, turnEnd, List.map_cons, List.map_nil, List.append_nil, List.cons_append, List.nil_append, List.replicate, List.getElem?_cons_zero, List.getElem?_cons_succ, List.set_cons_zero, List.set_cons_succ, List.length_cons, List.length_nil, List.length_append, Nat.zero_add, Nat.reduceAdd, Nat.add_zero]
    refine c_token O (Nat.le_refl 1) ?_
    rw [L']
    exact h2 (of_decide_eq_true ht) hp' S' N' L'
  · refine sq_skip ?_
    simp only [vE, vT, vA, onLoc, onStr, onLst, onInt, onTup, onList, onB, Bin, small, goOn, retOf, turnEnd, List.map_cons, List.map_nil, List.append_nil, List.cons_append, List.nil_append, List.replicate, List.getElem?_cons_zero, List.getElem?_cons_succ, List.set_cons_zero, List.set_cons_succ, List.length_cons, List.length_nil, List.length_append, Nat.zero_add, Nat.reduceAdd, Nat.add_zero]
    refine sq_ret ?_
    simp only [vE, vT, vA, onLoc, onStr, onLst, onInt, onTup, onList, onB, Bin, small, goOn, retOf, turnEnd, List.map_cons, List.map_nil, List.append_nil, List.cons_append, List.nil_append, List.replicate, List.getElem?_cons_zero, List.getElem?_cons_succ, List.set_cons_zero, List.set_cons_succ, List.length_cons, List.length_nil, List.length_append, Nat.zero_add, Nat.reduceAdd, Nat.add_zero]
    refine c_token O (Nat.le_refl 1) ?_
    exact h1 (Int.not_lt.mp (of_decide_eq_false hf))
theorem c_hexadecimal (O : Ok G) (hn : 3 ≤ n) (S : Sc w p rows ks hp) {b : Int} {ds : List Nat} (hd : ∀ c ∈ ds, hx c = true) (hk : ks.contains b = false) (hr : rows.length ≤ 1000) (hl : ks.length ≤ 1000)
    (h1 : tot 16 ds ≤ 4294967295 → P (.obj hp.length) (hp ++ [tok (.str "int") (.int (if 2147483647 < tot 16 ds then (tot 16 ds : Int) - 4294967295 - 1 else tot 16 ds)) b]))
    (h2 : 4294967295 < tot 16 ds → ∀ hp', Sc w p (rows ++ [.tup [.int b, .str "number_too_large"]]) (b :: ks) hp' → Nx w hp hp' → hp'.length = hp.length → P (.obj hp.length) (hp' ++ [tok (.str "int") (.int 0) b])) :
    TF G n aHexadecimal [.obj w.i, .int b, .str (sl ds)] hp P := by
  obtain ⟨Pm, hK⟩ := O.hk
  refine (f_Scanner_hexadecimal hK).at O.tab 2 hn rfl ?_
  unfold ir_Scanner_hexadecimal
  refine sq_set ?_
  simp only [vE, vT, vA, onLoc, onStr, onLst, onInt, onTup, onList, onB, Bin, small, goOn, retOf, turnEnd, List.map_cons, List.map_nil, List.append_nil, List.cons_append, List.nil_append, List.replicate, List.getElem?_cons_zero, List.getElem?_cons_succ, List.set_cons_zero, List.set_cons_succ, List.length_cons, List.length_nil, List.length_append, Nat.zero_add, Nat.reduceAdd, Nat.add_zero, on_scn S.s]
  refine c_digits O (b := 16) (most := 4294967295) (by omega) hd (by decide) (by decide) (by decide) ?_
  refine c_whole O (Nat.le_refl 2) S hk hr hl (fun hle => ?_) (fun hlt hp' S' N' L' => ?_)
  · have ht : tot 16 ds ≤ 4294967295 := by
      unfold dv at hle
      split at hle <;> omega
    have e : dv 16 4294967295 ds = tot 16 ds := if_pos ht
    rw [e]
    have h1 := h1 ht
    refine sq_ife ?_
    simp only [vE, vT, vA, onLoc, onStr, onLst, onInt, onTup, onList, onB, Bin, small, goOn, retOf, turnEnd, List.map_cons, List.map_nil, List.append_nil, List.cons_append, List.nil_append, List.replicate, List.getElem?_cons_zero, List.getElem?_cons_succ, List.set_cons_zero, List.set_cons_succ, List.length_cons, List.length_nil, List.length_append, Nat.zero_add, Nat.reduceAdd, Nat.add_zero, at_val at_len, Cmp]
    refine ⟨fun hb => ?_, fun hb => ?_⟩
    · refine sq_setA ?_
      simp only [vE, vT, vA, onLoc, onStr, onLst, onInt, onTup, onList, onB, Bin, small, goOn, retOf, turnEnd, List.map_cons, List.map_nil, List.append_nil, List.cons_append, List.nil_append, List.replicate, List.getElem?_cons_zero, List.getElem?_cons_succ, List.set_cons_zero, List.set_cons_succ, List.length_cons, List.length_nil, List.length_append, Nat.zero_add, Nat.reduceAdd, Nat.add_zero, at_val at_len, set_val O at_len, set_len]
      refine sq_skip ?_
      simp only [vE, vT, vA, onLoc, onStr, onLst, onInt, onTup, onList, onB, Bin, small, goOn, retOf, turnEnd, List.map_cons, List.map_nil, List.append_nil, List.cons_append, List.nil_append, List.replicate, List.getElem?_cons_zero, List.getElem?_cons_succ, List.set_cons_zero, List.set_cons_succ, List.length_cons, List.length_nil, List.length_append, Nat.zero_add, Nat.reduceAdd, Nat.add_zero]
      refine sq_ret ?_
      simp only [vE, vT, vA, onLoc, onStr, onLst, onInt, onTup, onList, onB, Bin, small, goOn, retOf, turnEnd, List.map_cons, List.map_nil, List.append_nil, List.cons_append, List.nil_append, List.replicate, List.getElem?_cons_zero, List.getElem?_cons_succ, List.set_cons_zero, List.set_cons_succ, List.length_cons, List.length_nil, List.length_append, Nat.zero_add, Nat.reduceAdd, Nat.add_zero]
      have hb := of_decide_eq_true hb
      rw [if_pos (by omega)] at h1
      exact h1
    · refine sq_skip ?_
      simp only [vE, vT, vA, onLoc, onStr, onLst, onInt, onTup, onList, onB, Bin, small, goOn, retOf, turnEnd, List.map_cons, List.map_nil, List.append_nil, List.cons_append, List.nil_append, List.replicate, List.getElem?_cons_zero, List.getElem?_cons_succ, List.set_cons_zero, List.set_cons_succ, List.length_cons, List.length_nil, List.length_append, Nat.zero_add, Nat.reduceAdd, Nat.add_zero]
      refine sq_ret ?_
      simp only [vE, vT, vA, onLoc, onStr, onLst, onInt, onTup, onList, onB, Bin, small, goOn, retOf, turnEnd, List.map_cons, List.map_nil, List.append_nil, List.cons_append, List.nil_append, List.replicate, List.getElem?_cons_zero, List.getElem?_cons_succ, List.set_cons_zero, List.set_cons_succ, List.length_cons, List.length_nil, List.length_append, Nat.zero_add, Nat.reduceAdd, Nat.add_zero]
      have hb := of_decide_eq_false hb
      rw [if_neg (by omega)] at h1
      exact h1
  · have ht : 4294967295 < tot 16 ds := by
      unfold dv at hlt
      split at hlt <;> omega
    have h2 := h2 ht hp' S' N' L'
    rw [← L'] at h2 ⊢
    refine sq_ife ?_
    simp only [vE, vT, vA, onLoc, onStr, onLst, onInt, onTup, onList, onB, Bin, small, goOn, retOf, turnEnd, List.map_cons, List.map_nil, List.append_nil, List.cons_append, List.nil_append, List.replicate, List.getElem?_cons_zero, List.getElem?_cons_succ, List.set_cons_zero, List.set_cons_succ, List.length_cons, List.length_nil, List.length_append, Nat.zero_add, Nat.reduceAdd, Nat.add_zero, at_val at_len, Cmp]
    refine ⟨fun hb => absurd hb (by decide), fun hb => ?_⟩
    refine sq_skip ?_
    simp only [vE, vT, vA, onLoc, onStr, onLst, onInt, onTup, onList, onB, Bin, small, goOn, retOf, turnEnd, List.map_cons, List.map_nil, List.append_nil, List.cons_append, List.nil_append, List.replicate, List.getElem?_cons_zero, List.getElem?_cons_succ, List.set_cons_zero, List.set_cons_succ, List.length_cons, List.length_nil, List.length_append, Nat.zero_add, Nat.reduceAdd, Nat.add_zero]
    refine sq_ret ?_
    simp only [vE, vT, vA, onLoc, onStr, onLst, onInt, onTup, onList, onB, Bin, small, goOn, retOf, turnEnd, List.map_cons, List.map_nil, List.append_nil, List.cons_append, List.nil_append, List.replicate, List.getElem?_cons_zero, List.getElem?_cons_succ, List.set_cons_zero, List.set_cons_succ, List.length_cons, List.length_nil, List.length_append, Nat.zero_add, Nat.reduceAdd, Nat.add_zero]
    exact h2
theorem c_character (O : Ok G) (hn : 2 ≤ n) (S : Sc w p rows ks hp) {b : Int} {ds : List Nat} (hd : ∀ c ∈ ds, hx c = true) (hk : ks.contains b = false) (hr : rows.length ≤ 1000) (hl : ks.length ≤ 1000)
    (h1 : tot 16 ds ≤ 255 → P (.obj hp.length) (hp ++ [tok (.str "string") (.str ⟨#[tot 16 ds]⟩) b]))
    (h2 : 255 < tot 16 ds → ∀ hp', Sc w p (rows ++ [.tup [.int b, .str "bad_char"]]) (b :: ks) hp' → Nx w hp hp' → hp'.length = hp.length → P (.obj hp.length) (hp' ++ [tok (.str "string") (.str ⟨#[0]⟩) b])) :
    TF G n aCharacter [.obj w.i, .int b, .str (sl ds)] hp P := by
  obtain ⟨Pm, hK⟩ := O.hk
  refine (f_Scanner_character hK).at O.tab 1 hn rfl ?_
  unfold ir_Scanner_character
  refine sq_set ?_
  simp only [vE, vT, vA, onLoc, onStr, onLst, onInt, onTup, onList, onB, Bin, small, goOn, retOf, turnEnd, List.map_cons, List.map_nil, List.append_nil, List.cons_append, List.nil_append, List.replicate, List.getElem?_cons_zero, List.getElem?_cons_succ, List.set_cons_zero, List.set_cons_succ, List.length_cons, List.length_nil, List.length_append, Nat.zero_add, Nat.reduceAdd, Nat.add_zero]
  refine c_digits O (b := 16) (most := 255) (by omega) hd (by decide) (by decide) (by decide) ?_
  refine sq_ife ?_
  simp only [vE, vT, vA, onLoc, onStr, onLst, onInt, onTup, onList, onB, Bin, small, goOn, retOf, turnEnd, List.map_cons, List.map_nil, List.append_nil, List.cons_append, List.nil_append, List.replicate, List.getElem?_cons_zero, List.getElem?_cons_succ, List.set_cons_zero, List.set_cons_succ, List.length_cons, List.length_nil, List.length_append, Nat.zero_add, Nat.reduceAdd, Nat.add_zero, Cmp]
  refine ⟨fun ht => ?_, fun hf => ?_⟩
  · have ht := of_decide_eq_true ht
    have ht : 255 < tot 16 ds := by
      unfold dv at ht
      split at ht <;> omega
    refine sq_exp ?_
    simp only [vE, vT, vA, onLoc, onStr, onLst, onInt, onTup, onList, onB, Bin, small, goOn, retOf, turnEnd, List.map_cons, List.map_nil, List.append_nil, List.cons_append, List.nil_append, List.replicate, List.getElem?_cons_zero, List.getElem?_cons_succ, List.set_cons_zero, List.set_cons_succ, List.length_cons, List.length_nil, List.length_append, Nat.zero_add, Nat.reduceAdd, Nat.add_zero, at_err S.s, on_erl S.e]
    refine c_mark O (Nat.le_refl 1) S hk hr hl fun hp' S' N' L' => ?_
    refine sq_set ?_
    simp only [vE, vT, vA, onLoc, onStr, onLst, onInt, onTup, onList, onB, Bin, small, goOn, retOf, turnEnd, List.map_cons, List.map_nil, List.append_nil, List.cons_append, List.nil_append, List.replicate, List.getElem?_cons_zero, List.getElem?_cons_succ, List.set_cons_zero, List.set_cons_succ, List.length_cons, List.length_nil, List.length_append, Nat.zero_add, Nat.reduceAdd, Nat.add_zero]
    refine sq_skip ?_
    simp only [vE, vT, vA, onLoc, onStr, onLst, onInt, onTup, onList, onB, Bin, small, goOn, retOf, turnEnd, List.map_cons, List.map_nil, List.append_nil, List.cons_append, List.nil_append, List.replicate, List.getElem?_cons_zero, List.getElem?_cons_succ, List.set_cons_zero, List.set_cons_succ, List.length_cons, List.length_nil, List.length_append, Nat.zero_add, Nat.reduceAdd, Nat.add_zero]
    refine sq_ret ?_
    simp only [vE, vT, vA, onLoc, onStr, onLst, onInt, onTup, onList, onB, Bin, small, goOn, retOf, turnEnd, List.map_cons, List.map_nil, List.append_nil, List.cons_append, List.nil_append, List.replicate, List.getElem?_cons_zero, List.getElem?_cons_succ, List.set_cons_zero, List.set_cons_succ, List.length_cons, List.length_nil, List.length_append, Nat.zero_add, Nat.reduceAdd, Nat.add_zero, Chr]
    refine ⟨by decide, ?_⟩
    refine c_token O (Nat.le_refl 1) ?_
    rw [L']
    exact h2 ht hp' S' N' L'
  · have hf := of_decide_eq_false hf
    have ht : tot 16 ds ≤ 255 := by
      unfold dv at hf
      split at hf <;> omega
    rw [show dv 16 255 ds = tot 16 ds from if_pos ht]
    refine sq_skip ?_
    simp only [vE, vT, vA, onLoc, onStr, onLst, onInt, onTup, onList, onB, Bin, small, goOn, retOf, turnEnd, List.map_cons, List.map_nil, List.append_nil, List.cons_append, List.nil_append, List.replicate, List.getElem?_cons_zero, List.getElem?_cons_succ, List.set_cons_zero, List.set_cons_succ, List.length_cons, List.length_nil, List.length_append, Nat.zero_add, Nat.reduceAdd, Nat.add_zero]
    refine sq_ret ?_
    simp only [vE, vT, vA, onLoc, onStr, onLst, onInt, onTup, onList, onB, Bin, small, goOn, retOf, turnEnd, List.map_cons, List.map_nil, List.append_nil, List.cons_append, List.nil_append, List.replicate, List.getElem?_cons_zero, List.getElem?_cons_succ, List.set_cons_zero, List.set_cons_succ, List.length_cons, List.length_nil, List.length_append, Nat.zero_add, Nat.reduceAdd, Nat.add_zero, Chr]
    refine ⟨by omega, ?_⟩
    refine c_token O (Nat.le_refl 1) ?_
    exact h1 ht
end
end Mine
end
section
set_option maxRecDepth 20000
namespace Mine
theorem tw_lt {α : Type} {g : α → Bool} : ∀ {l : List α} {m : Nat}, m < (l.takeWhile g).length → ∃ c, l[m]? = some c ∧ g c = true
  | [], m, h => by simp at h
  | a :: l, m, h => by
    rw [List.takeWhile_cons] at h
    split at h
    · rename_i ha
      cases m with
      | zero => exact ⟨a, rfl, ha⟩
      | succ m =>
        obtain ⟨c, h1, h2⟩ := tw_lt (g := g) (l := l) (m := m) (by simpa using h)
        exact ⟨c, by simpa using h1, h2⟩
    · simp at h
theorem tw_eq {α : Type} {g : α → Bool} {c : α} : ∀ {l : List α}, l[(l.takeWhile g).length]? = some c → g c = false
  | [], h => by simp at h
  | a :: l, h => by
    rw [List.takeWhile_cons] at h
    split at h
    · exact tw_eq (l := l) (by simpa using h)
    · rename_i ha
      cases h
      simpa using ha
theorem tw_take {α : Type} {g : α → Bool} : ∀ {l : List α}, l.take (l.takeWhile g).length = l.takeWhile g
  | [] => rfl
  | a :: l => by
    rw [List.takeWhile_cons]
    split
    · rw [List.length_cons, List.take_succ_cons, tw_take]
    · rfl
theorem tw_all {α : Type} {g : α → Bool} : ∀ {l : List α}, ∀ c ∈ l.takeWhile g, g c = true
  | [], c, h => by simp at h
  | a :: l, c, h => by
    rw [List.takeWhile_cons] at h
    split at h
    · rcases List.mem_cons.mp h with rfl | h
      · assumption
      · exact tw_all _ h
    · simp at h
theorem set_self {α : Type} {l : List α} {i : Nat} {a : α} (h : l[i]? = some a) : l.set i a = l := by
  obtain ⟨hlt, e⟩ := List.getElem?_eq_some_iff.mp h
  rw [← e]
  exact List.set_getElem_self hlt
theorem set_get {α : Type} {l : List α} {i : Nat} {a b : α} (h : l[i]? = some a) : (l.set i b)[i]? = some b := by
  have := (List.getElem?_eq_some_iff.mp h).1
  simp [this]
theorem sl_drop {x : Str} {b : Nat} {g : Nat → Bool} : Txt.slice x (some (b : Int)) (some ((b + ((x.cps.toList.drop b).takeWhile g).length : Nat) : Int)) = sl ((x.cps.toList.drop b).takeWhile g) := by
  rw [slice_sl _ _ _ (Nat.le_add_right _ _), Nat.add_sub_cancel_left, tw_take]
abbrev run (x : Str) (g : Nat → Bool) (b : Nat) : List Nat := (x.cps.toList.drop b).takeWhile g
theorem s_H : PySem.Str.ofString "H" = ⟨#[72]⟩ := by decide
theorem s_X : PySem.Str.ofString "X" = ⟨#[88]⟩ := by decide
theorem s_dot : PySem.Str.ofString "." = ⟨#[46]⟩ := by decide
theorem s_nil : PySem.Str.ofString "" = ⟨#[]⟩ := by decide
theorem fork_t {A B : Prop} (h : A) : fork true A B := And.intro (fun _ => h) (fun e => Bool.noConfusion e)
theorem fork_f {A B : Prop} (h : B) : fork false A B := And.intro (fun e => Bool.noConfusion e) (fun _ => h)
section
variable {G : Gl} {n : Nat} {hp : List AO} {w : Wd} {p : Nat} {rows : List AV} {ks : List Int}
theorem run_loop {t : IT} {g : Nat → Bool} {f : Option Nat → Bool} {env : List (Option AV)} {b : Nat} {P : AFl → ASt → Prop} (h2 : env[2]? = some (some (.int (b : Int)))) (hf0 : f none = false) (hfg : ∀ c, f (some c) = g c)
    (ht : ∀ (env' : List (Option AV)) (j : Nat) (Q : Bool → ASt → Prop), env'[0]? = env[0]? → env'[2]? = some (some (.int (j : Int))) → Q (f w.x.cps.toList[j]?) ⟨env', hp⟩ → vT G n t ⟨env', hp⟩ Q)
    (h : P .next ⟨env.set 2 (some (.int ((b + (run w.x g b).length : Nat) : Int))), hp⟩) : vWhl (vT G n t) (vS G n (.seq (.set 2 (.bin .Add (.loc 2) (.int 1))) .skip)) ⟨env, hp⟩ P := by
  refine ⟨fun st => ∃ m, m ≤ (run w.x g b).length ∧ st = ⟨env.set 2 (some (.int ((b + m : Nat) : Int))), hp⟩, fun (st : ASt) => match st.env[2]? with | some (some (AV.int j)) => b + (run w.x g b).length + 1 - j.toNat | _ => 0, ⟨0, Nat.zero_le _, ?_⟩, ?_⟩
  · rw [Nat.add_zero, set_self h2]
  · intro st1 hi
    obtain ⟨m, hm, rfl⟩ := hi
    refine ht _ (b + m) _ (by rw [List.getElem?_set_ne (by decide)]) (set_get h2) ⟨fun hx => ?_, fun hx => ?_⟩
    · have hlt : m < (run w.x g b).length := by
        rcases Nat.lt_or_eq_of_le hm with h | rfl
        · exact h
        · exfalso
          cases hc : w.x.cps.toList[b + (run w.x g b).length]? with
          | none => rw [hc, hf0] at hx; cases hx
          | some c =>
            rw [hc, hfg] at hx
            have := tw_eq (g := g) (c := c) (l := w.x.cps.toList.drop b) (by rw [List.getElem?_drop]; exact hc)
            rw [hx] at this
            cases this
      refine sq_set ?_
      simp only [vE, vT, vA, onLoc, onStr, onLst, onInt, onTup, onList, onB, Bin, small, goOn, retOf, turnEnd, List.map_cons, List.map_nil, List.append_nil, List.cons_append, List.nil_append, List.replicate, List.getElem?_cons_zero, List.getElem?_cons_succ, List.set_cons_zero, List.set_cons_succ, List.length_cons, List.length_nil, List.length_append, Nat.zero_add, Nat.reduceAdd, Nat.add_zero, set_get h2, List.set_set]
      refine sq_skip ⟨⟨m + 1, hlt, ?_⟩, ?_⟩
      · rw [show ((b + m : Nat) : Int) + 1 = ((b + (m + 1) : Nat) : Int) by omega]
      · simp only [set_get h2, Int.toNat_natCast]
        omega
    · have he : m = (run w.x g b).length := by
        rcases Nat.lt_or_eq_of_le hm with h | h
        · exfalso
          obtain ⟨c, hc, hg⟩ := tw_lt h
          rw [List.getElem?_drop] at hc
          rw [hc, hfg, hg] at hx
          cases hx
        · exact h
      subst he
      exact h
theorem t_hex (O : Ok G) (hn : 2 ≤ n) (S : Sc w p rows ks hp) {env' : List (Option AV)} {j : Nat} {Q : Bool → ASt → Prop} (h0 : env'[0]? = some (some (.obj w.i))) (h2 : env'[2]? = some (some (.int (j : Int)))) (h : Q (isHex w.x.cps.toList[j]?) ⟨env', hp⟩) :
    vT G n (.pl (.call aIsHexDigit (.cons (.slc (.attr 0 0) (.loc 2) (.bin .Add (.loc 2) (.int 1))) .nil))) ⟨env', hp⟩ Q := by
  simp only [vE, vT, vA, onLoc, onStr, onLst, onInt, onTup, onList, onB, Bin, small, goOn, retOf, turnEnd, List.map_cons, List.map_nil, List.append_nil, List.cons_append, List.nil_append, List.replicate, List.getElem?_cons_zero, List.getElem?_cons_succ, List.set_cons_zero, List.set_cons_succ, List.length_cons, List.length_nil, List.length_append, Nat.zero_add, Nat.reduceAdd, Nat.add_zero, h0, h2, at_src S.s, Slc, slice_one]
  exact ⟨Nat.le_trans S.sz (by decide), c_is_hex O hn _ h⟩
theorem t_dig (O : Ok G) (hn : 1 ≤ n) (S : Sc w p rows ks hp) {env' : List (Option AV)} {j : Nat} {Q : Bool → ASt → Prop} (h0 : env'[0]? = some (some (.obj w.i))) (h2 : env'[2]? = some (some (.int (j : Int)))) (h : Q (isDig w.x.cps.toList[j]?) ⟨env', hp⟩) :
    vT G n (.pl (.call aIsDigit (.cons (.slc (.attr 0 0) (.loc 2) (.bin .Add (.loc 2) (.int 1))) .nil))) ⟨env', hp⟩ Q := by
  simp only [vE, vT, vA, onLoc, onStr, onLst, onInt, onTup, onList, onB, Bin, small, goOn, retOf, turnEnd, List.map_cons, List.map_nil, List.append_nil, List.cons_append, List.nil_append, List.replicate, List.getElem?_cons_zero, List.getElem?_cons_succ, List.set_cons_zero, List.set_cons_succ, List.length_cons, List.length_nil, List.length_append, Nat.zero_add, Nat.reduceAdd, Nat.add_zero, h0, h2, at_src S.s, Slc, slice_one]
  exact ⟨Nat.le_trans S.sz (by decide), c_is_digit O hn _ h⟩
noncomputable def isAl (o : Option Nat) : Bool := isLet o || isDig o
noncomputable def al (c : Nat) : Bool := isAl (some c)
theorem t_al (O : Ok G) (hn : 1 ≤ n) (S : Sc w p rows ks hp) {env' : List (Option AV)} {j : Nat} {Q : Bool → ASt → Prop} (h0 : env'[0]? = some (some (.obj w.i))) (h2 : env'[2]? = some (some (.int (j : Int)))) (h : Q (isAl w.x.cps.toList[j]?) ⟨env', hp⟩) :
    vT G n (.or (.pl (.call aIsLetter (.cons (.slc (.attr 0 0) (.loc 2) (.bin .Add (.loc 2) (.int 1))) .nil))) (.pl (.call aIsDigit (.cons (.slc (.attr 0 0) (.loc 2) (.bin .Add (.loc 2) (.int 1))) .nil)))) ⟨env', hp⟩ Q := by
  simp only [vE, vT, vA, onLoc, onStr, onLst, onInt, onTup, onList, onB, Bin, small, goOn, retOf, turnEnd, List.map_cons, List.map_nil, List.append_nil, List.cons_append, List.nil_append, List.replicate, List.getElem?_cons_zero, List.getElem?_cons_succ, List.set_cons_zero, List.set_cons_succ, List.length_cons, List.length_nil, List.length_append, Nat.zero_add, Nat.reduceAdd, Nat.add_zero, h0, h2, at_src S.s, Slc, slice_one]
  refine ⟨Nat.le_trans S.sz (by decide), c_is_letter O hn _ ?_⟩
  simp only [vE, vT, vA, onLoc, onStr, onLst, onInt, onTup, onList, onB, Bin, small, goOn, retOf, turnEnd, List.map_cons, List.map_nil, List.append_nil, List.cons_append, List.nil_append, List.replicate, List.getElem?_cons_zero, List.getElem?_cons_succ, List.set_cons_zero, List.set_cons_succ, List.length_cons, List.length_nil, List.length_append, Nat.zero_add, Nat.reduceAdd, Nat.add_zero, h0, h2, at_src S.s, Slc, slice_one]
  refine ⟨fun e => ?_, fun e => ⟨Nat.le_trans S.sz (by decide), c_is_digit O hn _ ?_⟩⟩
  · rw [isAl, e, Bool.true_or] at h; exact h
  · rw [isAl, e, Bool.false_or] at h; exact h
end
section
variable {G : Gl} {n : Nat} {hp : List AO} {w : Wd} {p : Nat} {rows : List AV} {ks : List Int} {P : AV → List AO → Prop}
theorem c_numeral (O : Ok G) (hn : 4 ≤ n) {b : Nat} (S : Sc w p rows ks hp)
    (hH : w.x.cps.toList[b + (run w.x hx b).length]? = some 72 → ∀ hp', Sc w (b + (run w.x hx b).length + 1) rows ks hp' → Nx w hp hp' → hp'.length = hp.length → TF G 3 aHexadecimal [.obj w.i, .int b, .str (sl (run w.x hx b))] hp' P)
    (hX : w.x.cps.toList[b + (run w.x hx b).length]? = some 88 → ∀ hp', Sc w (b + (run w.x hx b).length + 1) rows ks hp' → Nx w hp hp' → hp'.length = hp.length → TF G 3 aCharacter [.obj w.i, .int b, .str (sl (run w.x hx b))] hp' P)
    (hD : w.x.cps.toList[b + (run w.x hx b).length]? ≠ some 72 → w.x.cps.toList[b + (run w.x hx b).length]? ≠ some 88 → ∀ hp', Sc w (b + (run w.x dg b).length) rows ks hp' → Nx w hp hp' → hp'.length = hp.length →
      (w.x.cps.toList[b + (run w.x dg b).length]? = some 46 ∧ w.x.cps.toList[b + (run w.x dg b).length + 1]? ≠ some 46 → TF G 3 aReal [.obj w.i, .int b] hp' P) ∧
      (¬ (w.x.cps.toList[b + (run w.x dg b).length]? = some 46 ∧ w.x.cps.toList[b + (run w.x dg b).length + 1]? ≠ some 46) → TF G 3 aWhole [.obj w.i, .int b, .int (dv 10 2147483647 (run w.x dg b) : Nat), .int 2147483647] hp' P)) :
    TF G n aNumeral [.obj w.i, .int b] hp P := by
  obtain ⟨Pm, hK⟩ := O.hk
  refine (f_Scanner_numeral hK).at O.tab 3 hn rfl ?_
  unfold ir_Scanner_numeral
  have hsz := Nat.le_trans S.sz (show 1000000 ≤ sizeLine by decide)
  refine sq_set ?_
  simp only [vE, vT, vA, onLoc, onStr, onLst, onInt, onTup, onList, onB, Bin, small, goOn, retOf, turnEnd, List.map_cons, List.map_nil, List.append_nil, List.cons_append, List.nil_append, List.replicate, List.getElem?_cons_zero, List.getElem?_cons_succ, List.set_cons_zero, List.set_cons_succ, List.length_cons, List.length_nil, List.length_append, Nat.zero_add, Nat.reduceAdd, Nat.add_zero]
  refine sq_whl ?_
  refine run_loop (f := isHex) (g := hx) (b := b) rfl rfl (fun _ => rfl) (fun env' j Q h0 h2 h => t_hex O (by decide) S h0 h2 h) ?_
  simp only [vE, vT, vA, onLoc, onStr, onLst, onInt, onTup, onList, onB, Bin, small, goOn, retOf, turnEnd, List.map_cons, List.map_nil, List.append_nil, List.cons_append, List.nil_append, List.replicate, List.getElem?_cons_zero, List.getElem?_cons_succ, List.set_cons_zero, List.set_cons_succ, List.length_cons, List.length_nil, List.length_append, Nat.zero_add, Nat.reduceAdd, Nat.add_zero]
  have hs : Txt.slice w.x (some (b : Int)) (some ((b + (run w.x hx b).length : Nat) : Int)) = sl (run w.x hx b) := sl_drop
  generalize hL : (run w.x hx b).length = L at *
  refine sq_set ?_
  simp only [vE, vT, vA, onLoc, onStr, onLst, onInt, onTup, onList, onB, Bin, small, goOn, retOf, turnEnd, List.map_cons, List.map_nil, List.append_nil, List.cons_append, List.nil_append, List.replicate, List.getElem?_cons_zero, List.getElem?_cons_succ, List.set_cons_zero, List.set_cons_succ, List.length_cons, List.length_nil, List.length_append, Nat.zero_add, Nat.reduceAdd, Nat.add_zero, at_src S.s, Slc, hs]
  refine ⟨hsz, ?_⟩
  refine sq_set ?_
  simp only [vE, vT, vA, onLoc, onStr, onLst, onInt, onTup, onList, onB, Bin, small, goOn, retOf, turnEnd, List.map_cons, List.map_nil, List.append_nil, List.cons_append, List.nil_append, List.replicate, List.getElem?_cons_zero, List.getElem?_cons_succ, List.set_cons_zero, List.set_cons_succ, List.length_cons, List.length_nil, List.length_append, Nat.zero_add, Nat.reduceAdd, Nat.add_zero, at_src S.s, Slc, slice_one]
  refine ⟨hsz, ?_⟩
  refine sq_ife ?_
  simp only [vE, vT, vA, onLoc, onStr, onLst, onInt, onTup, onList, onB, Bin, small, goOn, retOf, turnEnd, List.map_cons, List.map_nil, List.append_nil, List.cons_append, List.nil_append, List.replicate, List.getElem?_cons_zero, List.getElem?_cons_succ, List.set_cons_zero, List.set_cons_succ, List.length_cons, List.length_nil, List.length_append, Nat.zero_add, Nat.reduceAdd, Nat.add_zero, Cmp, s_H, s_X, oc_one]
  refine ⟨fun e => fork_t ?_, fun e => ⟨fun e' => ?_, fun e' => ?_⟩⟩
  · have e := beq_iff_eq.mp e
    refine sq_setA ?_
    simp only [vE, vT, vA, onLoc, onStr, onLst, onInt, onTup, onList, onB, Bin, small, goOn, retOf, turnEnd, List.map_cons, List.map_nil, List.append_nil, List.cons_append, List.nil_append, List.replicate, List.getElem?_cons_zero, List.getElem?_cons_succ, List.set_cons_zero, List.set_cons_succ, List.length_cons, List.length_nil, List.length_append, Nat.zero_add, Nat.reduceAdd, Nat.add_zero, set_plc O S.s]
    have S' := S.go (b + L + 1)
    rw [show ((b + L : Nat) : Int) + 1 = ((b + L + 1 : Nat) : Int) by omega]
    refine sq_ife ?_
    simp only [vE, vT, vA, onLoc, onStr, onLst, onInt, onTup, onList, onB, Bin, small, goOn, retOf, turnEnd, List.map_cons, List.map_nil, List.append_nil, List.cons_append, List.nil_append, List.replicate, List.getElem?_cons_zero, List.getElem?_cons_succ, List.set_cons_zero, List.set_cons_succ, List.length_cons, List.length_nil, List.length_append, Nat.zero_add, Nat.reduceAdd, Nat.add_zero, Cmp, s_H, oc_one, e, BEq.rfl]
    refine fork_t ?_
    refine sq_ret ?_
    simp only [vE, vT, vA, onLoc, onStr, onLst, onInt, onTup, onList, onB, Bin, small, goOn, retOf, turnEnd, List.map_cons, List.map_nil, List.append_nil, List.cons_append, List.nil_append, List.replicate, List.getElem?_cons_zero, List.getElem?_cons_succ, List.set_cons_zero, List.set_cons_succ, List.length_cons, List.length_nil, List.length_append, Nat.zero_add, Nat.reduceAdd, Nat.add_zero, on_scn S'.s]
    exact hH e _ S' (.set (.inl rfl)) (by simp)
  · have e' := beq_iff_eq.mp e'
    refine sq_setA ?_
    simp only [vE, vT, vA, onLoc, onStr, onLst, onInt, onTup, onList, onB, Bin, small, goOn, retOf, turnEnd, List.map_cons, List.map_nil, List.append_nil, List.cons_append, List.nil_append, List.replicate, List.getElem?_cons_zero, List.getElem?_cons_succ, List.set_cons_zero, List.set_cons_succ, List.length_cons, List.length_nil, List.length_append, Nat.zero_add, Nat.reduceAdd, Nat.add_zero, set_plc O S.s]
    have S' := S.go (b + L + 1)
    rw [show ((b + L : Nat) : Int) + 1 = ((b + L + 1 : Nat) : Int) by omega]
    refine sq_ife ?_
    simp only [vE, vT, vA, onLoc, onStr, onLst, onInt, onTup, onList, onB, Bin, small, goOn, retOf, turnEnd, List.map_cons, List.map_nil, List.append_nil, List.cons_append, List.nil_append, List.replicate, List.getElem?_cons_zero, List.getElem?_cons_succ, List.set_cons_zero, List.set_cons_succ, List.length_cons, List.length_nil, List.length_append, Nat.zero_add, Nat.reduceAdd, Nat.add_zero, Cmp, s_H, oc_one, e', BEq.rfl]
    refine fork_f ?_
    refine sq_skip ?_
    simp only [vE, vT, vA, onLoc, onStr, onLst, onInt, onTup, onList, onB, Bin, small, goOn, retOf, turnEnd, List.map_cons, List.map_nil, List.append_nil, List.cons_append, List.nil_append, List.replicate, List.getElem?_cons_zero, List.getElem?_cons_succ, List.set_cons_zero, List.set_cons_succ, List.length_cons, List.length_nil, List.length_append, Nat.zero_add, Nat.reduceAdd, Nat.add_zero]
    refine sq_ret ?_
    simp only [vE, vT, vA, onLoc, onStr, onLst, onInt, onTup, onList, onB, Bin, small, goOn, retOf, turnEnd, List.map_cons, List.map_nil, List.append_nil, List.cons_append, List.nil_append, List.replicate, List.getElem?_cons_zero, List.getElem?_cons_succ, List.set_cons_zero, List.set_cons_succ, List.length_cons, List.length_nil, List.length_append, Nat.zero_add, Nat.reduceAdd, Nat.add_zero, on_scn S'.s]
    exact hX e' _ S' (.set (.inl rfl)) (by simp)
  · have e1 := beq_eq_false_iff_ne.mp e
    have e2 := beq_eq_false_iff_ne.mp e'
    refine sq_skip ?_
    simp only [vE, vT, vA, onLoc, onStr, onLst, onInt, onTup, onList, onB, Bin, small, goOn, retOf, turnEnd, List.map_cons, List.map_nil, List.append_nil, List.cons_append, List.nil_append, List.replicate, List.getElem?_cons_zero, List.getElem?_cons_succ, List.set_cons_zero, List.set_cons_succ, List.length_cons, List.length_nil, List.length_append, Nat.zero_add, Nat.reduceAdd, Nat.add_zero]
    refine sq_set ?_
    simp only [vE, vT, vA, onLoc, onStr, onLst, onInt, onTup, onList, onB, Bin, small, goOn, retOf, turnEnd, List.map_cons, List.map_nil, List.append_nil, List.cons_append, List.nil_append, List.replicate, List.getElem?_cons_zero, List.getElem?_cons_succ, List.set_cons_zero, List.set_cons_succ, List.length_cons, List.length_nil, List.length_append, Nat.zero_add, Nat.reduceAdd, Nat.add_zero]
    refine sq_whl ?_
    refine run_loop (f := isDig) (g := dg) (b := b) rfl rfl (fun _ => rfl) (fun env' j Q h0 h2 h => t_dig O (by decide) S h0 h2 h) ?_
    simp only [vE, vT, vA, onLoc, onStr, onLst, onInt, onTup, onList, onB, Bin, small, goOn, retOf, turnEnd, List.map_cons, List.map_nil, List.append_nil, List.cons_append, List.nil_append, List.replicate, List.getElem?_cons_zero, List.getElem?_cons_succ, List.set_cons_zero, List.set_cons_succ, List.length_cons, List.length_nil, List.length_append, Nat.zero_add, Nat.reduceAdd, Nat.add_zero]
    have hs' : Txt.slice w.x (some (b : Int)) (some ((b + (run w.x dg b).length : Nat) : Int)) = sl (run w.x dg b) := sl_drop
    generalize hM : (run w.x dg b).length = M at *
    refine sq_setA ?_
    simp only [vE, vT, vA, onLoc, onStr, onLst, onInt, onTup, onList, onB, Bin, small, goOn, retOf, turnEnd, List.map_cons, List.map_nil, List.append_nil, List.cons_append, List.nil_append, List.replicate, List.getElem?_cons_zero, List.getElem?_cons_succ, List.set_cons_zero, List.set_cons_succ, List.length_cons, List.length_nil, List.length_append, Nat.zero_add, Nat.reduceAdd, Nat.add_zero, set_plc O S.s]
    have S' := S.go (b + M)
    obtain ⟨hR, hW⟩ := hD e1 e2 _ S' (.set (.inl rfl)) (by simp)
    refine sq_ife ?_
    simp only [vE, vT, vA, onLoc, onStr, onLst, onInt, onTup, onList, onB, Bin, small, goOn, retOf, turnEnd, List.map_cons, List.map_nil, List.append_nil, List.cons_append, List.nil_append, List.replicate, List.getElem?_cons_zero, List.getElem?_cons_succ, List.set_cons_zero, List.set_cons_succ, List.length_cons, List.length_nil, List.length_append, Nat.zero_add, Nat.reduceAdd, Nat.add_zero, on_scn S'.s]
    refine c_char O (by omega) S' ?_
    simp only [vE, vT, vA, onLoc, onStr, onLst, onInt, onTup, onList, onB, Bin, small, goOn, retOf, turnEnd, List.map_cons, List.map_nil, List.append_nil, List.cons_append, List.nil_append, List.replicate, List.getElem?_cons_zero, List.getElem?_cons_succ, List.set_cons_zero, List.set_cons_succ, List.length_cons, List.length_nil, List.length_append, Nat.zero_add, Nat.reduceAdd, Nat.add_zero, Cmp, s_dot, oc_one, on_scn S'.s]
    have fin : ¬ (w.x.cps.toList[b + M]? = some 46 ∧ w.x.cps.toList[b + M + 1]? ≠ some 46) → vS G 3 (((IS.set 5 (IE.call aDigitsValue (IA.cons ((IE.attr 0 0).slc (IE.loc 1) (IE.loc 2)) (IA.cons (IE.int 10) (IA.cons (IE.int 2147483647) IA.nil))))).seq ((IS.ret (IE.meth aScanner aWhole (IE.loc 0) (IA.cons (IE.loc 1) (IA.cons (IE.loc 5) (IA.cons (IE.int 2147483647) IA.nil))))).seq IS.skip)))
        ⟨[some (.obj w.i), some (.int b), some (.int ((b + M : Nat) : Int)), some (.str (sl (run w.x hx b))), some (.str (oc w.x.cps.toList[b + L]?)), none, none, none, none, none], hp.set w.i (scn w.x w.e ((b + M : Nat) : Int))⟩ (fun fl st => P (retOf fl) st.heap) := by
      intro hn
      refine sq_set ?_
      simp only [vE, vT, vA, onLoc, onStr, onLst, onInt, onTup, onList, onB, Bin, small, goOn, retOf, turnEnd, List.map_cons, List.map_nil, List.append_nil, List.cons_append, List.nil_append, List.replicate, List.getElem?_cons_zero, List.getElem?_cons_succ, List.set_cons_zero, List.set_cons_succ, List.length_cons, List.length_nil, List.length_append, Nat.zero_add, Nat.reduceAdd, Nat.add_zero, at_src S'.s, Slc, hs']
      refine ⟨hsz, ?_⟩
      refine c_digits O (b := 10) (most := 2147483647) (by omega) (fun c hc => dg_hx (tw_all c hc)) (by decide) (by decide) (by decide) ?_
      refine sq_ret ?_
      simp only [vE, vT, vA, onLoc, onStr, onLst, onInt, onTup, onList, onB, Bin, small, goOn, retOf, turnEnd, List.map_cons, List.map_nil, List.append_nil, List.cons_append, List.nil_append, List.replicate, List.getElem?_cons_zero, List.getElem?_cons_succ, List.set_cons_zero, List.set_cons_succ, List.length_cons, List.length_nil, List.length_append, Nat.zero_add, Nat.reduceAdd, Nat.add_zero, on_scn S'.s]
      exact hW hn
    refine ⟨fun e => ?_, fun e => ?_⟩
    · have e := beq_iff_eq.mp e
      refine c_char1 O (by omega) S' ?_
      simp only [vE, vT, vA, onLoc, onStr, onLst, onInt, onTup, onList, onB, Bin, small, goOn, retOf, turnEnd, List.map_cons, List.map_nil, List.append_nil, List.cons_append, List.nil_append, List.replicate, List.getElem?_cons_zero, List.getElem?_cons_succ, List.set_cons_zero, List.set_cons_succ, List.length_cons, List.length_nil, List.length_append, Nat.zero_add, Nat.reduceAdd, Nat.add_zero, Cmp, s_dot, bne, oc_one]
      refine ⟨fun h => ?_, fun h => ?_⟩
      · refine sq_ret ?_
        simp only [vE, vT, vA, onLoc, onStr, onLst, onInt, onTup, onList, onB, Bin, small, goOn, retOf, turnEnd, List.map_cons, List.map_nil, List.append_nil, List.cons_append, List.nil_append, List.replicate, List.getElem?_cons_zero, List.getElem?_cons_succ, List.set_cons_zero, List.set_cons_succ, List.length_cons, List.length_nil, List.length_append, Nat.zero_add, Nat.reduceAdd, Nat.add_zero, on_scn S'.s]
        exact hR ⟨e, by simpa using h⟩
      · refine sq_skip ?_
        simp only [vE, vT, vA, onLoc, onStr, onLst, onInt, onTup, onList, onB, Bin, small, goOn, retOf, turnEnd, List.map_cons, List.map_nil, List.append_nil, List.cons_append, List.nil_append, List.replicate, List.getElem?_cons_zero, List.getElem?_cons_succ, List.set_cons_zero, List.set_cons_succ, List.length_cons, List.length_nil, List.length_append, Nat.zero_add, Nat.reduceAdd, Nat.add_zero]
        exact fin fun z => z.2 (by simpa using h)
    · have e := beq_eq_false_iff_ne.mp e
      refine fork_f ?_
      refine sq_skip ?_
      simp only [vE, vT, vA, onLoc, onStr, onLst, onInt, onTup, onList, onB, Bin, small, goOn, retOf, turnEnd, List.map_cons, List.map_nil, List.append_nil, List.cons_append, List.nil_append, List.replicate, List.getElem?_cons_zero, List.getElem?_cons_succ, List.set_cons_zero, List.set_cons_succ, List.length_cons, List.length_nil, List.length_append, Nat.zero_add, Nat.reduceAdd, Nat.add_zero]
      exact fin fun z => e z.1
theorem c_word (O : Ok G) (hn : 2 ≤ n) {b : Nat} (S : Sc w p rows ks hp)
    (h1 : kwl.any (· == sl (run w.x al b)) = true → ∀ hp', Sc w (b + (run w.x al b).length) rows ks hp' → Nx w hp hp' → hp'.length = hp.length → P (.obj hp'.length) (hp' ++ [tok (.str (sl (run w.x al b))) (.str "") b]))
    (h2 : kwl.any (· == sl (run w.x al b)) = false → ∀ hp', Sc w (b + (run w.x al b).length) rows ks hp' → Nx w hp hp' → hp'.length = hp.length → P (.obj hp'.length) (hp' ++ [tok (.str "ident") (.str (sl (run w.x al b))) b])) :
    TF G n aWord [.obj w.i, .int b] hp P := by
  obtain ⟨Pm, hK⟩ := O.hk
  refine (f_Scanner_word hK).at O.tab 1 hn rfl ?_
  unfold ir_Scanner_word
  have hsz := Nat.le_trans S.sz (show 1000000 ≤ sizeLine by decide)
  refine sq_set ?_
  simp only [vE, vT, vA, onLoc, onStr, onLst, onInt, onTup, onList, onB, Bin, small, goOn, retOf, turnEnd, List.map_cons, List.map_nil, List.append_nil, List.cons_append, List.nil_append, List.replicate, List.getElem?_cons_zero, List.getElem?_cons_succ, List.set_cons_zero, List.set_cons_succ, List.length_cons, List.length_nil, List.length_append, Nat.zero_add, Nat.reduceAdd, Nat.add_zero]
  refine sq_whl ?_
  refine run_loop (f := isAl) (g := al) (b := b) rfl rfl (fun _ => rfl) (fun env' j Q h0 h2 h => t_al O (by decide) S h0 h2 h) ?_
  simp only [vE, vT, vA, onLoc, onStr, onLst, onInt, onTup, onList, onB, Bin, small, goOn, retOf, turnEnd, List.map_cons, List.map_nil, List.append_nil, List.cons_append, List.nil_append, List.replicate, List.getElem?_cons_zero, List.getElem?_cons_succ, List.set_cons_zero, List.set_cons_succ, List.length_cons, List.length_nil, List.length_append, Nat.zero_add, Nat.reduceAdd, Nat.add_zero]
  have hs : Txt.slice w.x (some (b : Int)) (some ((b + (run w.x al b).length : Nat) : Int)) = sl (run w.x al b) := sl_drop
  generalize hM : (run w.x al b).length = M at *
  refine sq_setA ?_
  simp only [vE, vT, vA, onLoc, onStr, onLst, onInt, onTup, onList, onB, Bin, small, goOn, retOf, turnEnd, List.map_cons, List.map_nil, List.append_nil, List.cons_append, List.nil_append, List.replicate, List.getElem?_cons_zero, List.getElem?_cons_succ, List.set_cons_zero, List.set_cons_succ, List.length_cons, List.length_nil, List.length_append, Nat.zero_add, Nat.reduceAdd, Nat.add_zero, set_plc O S.s]
  have S' := S.go (b + M)
  refine sq_set ?_
  simp only [vE, vT, vA, onLoc, onStr, onLst, onInt, onTup, onList, onB, Bin, small, goOn, retOf, turnEnd, List.map_cons, List.map_nil, List.append_nil, List.cons_append, List.nil_append, List.replicate, List.getElem?_cons_zero, List.getElem?_cons_succ, List.set_cons_zero, List.set_cons_succ, List.length_cons, List.length_nil, List.length_append, Nat.zero_add, Nat.reduceAdd, Nat.add_zero, at_src S'.s, Slc, hs]
  refine ⟨hsz, ?_⟩
  refine sq_ife ?_
  simp only [vE, vT, vA, onLoc, onStr, onLst, onInt, onTup, onList, onB, Bin, small, goOn, retOf, turnEnd, List.map_cons, List.map_nil, List.append_nil, List.cons_append, List.nil_append, List.replicate, List.getElem?_cons_zero, List.getElem?_cons_succ, List.set_cons_zero, List.set_cons_succ, List.length_cons, List.length_nil, List.length_append, Nat.zero_add, Nat.reduceAdd, Nat.add_zero, at_wrd S'.s, Cmp, (rfl : strsOf (sv kwl) = some kwl)]
  refine ⟨fun e => ?_, fun e => ?_⟩
  · refine sq_ret ?_
    simp only [vE, vT, vA, onLoc, onStr, onLst, onInt, onTup, onList, onB, Bin, small, goOn, retOf, turnEnd, List.map_cons, List.map_nil, List.append_nil, List.cons_append, List.nil_append, List.replicate, List.getElem?_cons_zero, List.getElem?_cons_succ, List.set_cons_zero, List.set_cons_succ, List.length_cons, List.length_nil, List.length_append, Nat.zero_add, Nat.reduceAdd, Nat.add_zero]
    exact c_token O (by decide) (h1 e _ S' (.set (.inl rfl)) (by simp))
  · refine sq_skip ?_
    simp only [vE, vT, vA, onLoc, onStr, onLst, onInt, onTup, onList, onB, Bin, small, goOn, retOf, turnEnd, List.map_cons, List.map_nil, List.append_nil, List.cons_append, List.nil_append, List.replicate, List.getElem?_cons_zero, List.getElem?_cons_succ, List.set_cons_zero, List.set_cons_succ, List.length_cons, List.length_nil, List.length_append, Nat.zero_add, Nat.reduceAdd, Nat.add_zero]
    refine sq_ret ?_
    simp only [vE, vT, vA, onLoc, onStr, onLst, onInt, onTup, onList, onB, Bin, small, goOn, retOf, turnEnd, List.map_cons, List.map_nil, List.append_nil, List.cons_append, List.nil_append, List.replicate, List.getElem?_cons_zero, List.getElem?_cons_succ, List.set_cons_zero, List.set_cons_succ, List.length_cons, List.length_nil, List.length_append, Nat.zero_add, Nat.reduceAdd, Nat.add_zero]
    exact c_token O (by decide) (h2 e _ S' (.set (.inl rfl)) (by simp))
noncomputable def pairs : List Str := [":=", "<=", ">=", ".."]
noncomputable def symb (a b : Option Nat) : Str :=
  if pairs.any (· == (oc a ++ oc b)) then oc a ++ oc b
  else if !(Builtin.Str.occurrences "+-*/~&.,;|([{^=#<>:)]}" (oc a) 0 (PySem.Str.ofString "+-*/~&.,;|([{^=#<>:)]}").length 1).isEmpty then oc a else ""
theorem oc_len (o : Option Nat) : (oc o).length ≤ 1 := by cases o <;> simp [oc, Str.length]
theorem c_symbol (O : Ok G) (hn : 2 ≤ n) (S : Sc w p rows ks hp) (h : P (.str (symb w.x.cps.toList[p]? w.x.cps.toList[p + 1]?)) hp) : TF G n aSymbol [.obj w.i] hp P := by
  obtain ⟨Pm, hK⟩ := O.hk
  refine (f_Scanner_symbol hK).at O.tab 1 hn rfl ?_
  unfold ir_Scanner_symbol
  have hlen : (oc w.x.cps.toList[p]?).length + (oc w.x.cps.toList[p + 1]?).length ≤ sizeLine := Nat.le_trans (Nat.add_le_add (oc_len _) (oc_len _)) (by decide)
  unfold symb at h
  refine sq_set ?_
  simp only [vE, vT, vA, onLoc, onStr, onLst, onInt, onTup, onList, onB, Bin, small, goOn, retOf, turnEnd, List.map_cons, List.map_nil, List.append_nil, List.cons_append, List.nil_append, List.replicate, List.getElem?_cons_zero, List.getElem?_cons_succ, List.set_cons_zero, List.set_cons_succ, List.length_cons, List.length_nil, List.length_append, Nat.zero_add, Nat.reduceAdd, Nat.add_zero, on_scn S.s]
  refine c_char O (by omega) S ?_
  simp only [vE, vT, vA, onLoc, onStr, onLst, onInt, onTup, onList, onB, Bin, small, goOn, retOf, turnEnd, List.map_cons, List.map_nil, List.append_nil, List.cons_append, List.nil_append, List.replicate, List.getElem?_cons_zero, List.getElem?_cons_succ, List.set_cons_zero, List.set_cons_succ, List.length_cons, List.length_nil, List.length_append, Nat.zero_add, Nat.reduceAdd, Nat.add_zero, on_scn S.s]
  refine c_char1 O (by omega) S ?_
  simp only [vE, vT, vA, onLoc, onStr, onLst, onInt, onTup, onList, onB, Bin, small, goOn, retOf, turnEnd, List.map_cons, List.map_nil, List.append_nil, List.cons_append, List.nil_append, List.replicate, List.getElem?_cons_zero, List.getElem?_cons_succ, List.set_cons_zero, List.set_cons_succ, List.length_cons, List.length_nil, List.length_append, Nat.zero_add, Nat.reduceAdd, Nat.add_zero]
  refine ⟨hlen, ?_⟩
  refine sq_ife ?_
  simp only [vE, vT, vA, onLoc, onStr, onLst, onInt, onTup, onList, onB, Bin, small, goOn, retOf, turnEnd, List.map_cons, List.map_nil, List.append_nil, List.cons_append, List.nil_append, List.replicate, List.getElem?_cons_zero, List.getElem?_cons_succ, List.set_cons_zero, List.set_cons_succ, List.length_cons, List.length_nil, List.length_append, Nat.zero_add, Nat.reduceAdd, Nat.add_zero, Cmp, strsOf, Option.map_some]
  refine ⟨by decide, fun e => ?_, fun e => ?_⟩
  · refine sq_ret ?_
    simp only [vE, vT, vA, onLoc, onStr, onLst, onInt, onTup, onList, onB, Bin, small, goOn, retOf, turnEnd, List.map_cons, List.map_nil, List.append_nil, List.cons_append, List.nil_append, List.replicate, List.getElem?_cons_zero, List.getElem?_cons_succ, List.set_cons_zero, List.set_cons_succ, List.length_cons, List.length_nil, List.length_append, Nat.zero_add, Nat.reduceAdd, Nat.add_zero]
    rw [show (pairs.any (· == (oc w.x.cps.toList[p]? ++ oc w.x.cps.toList[p + 1]?))) = true from e, if_pos rfl] at h
    exact h
  · rw [show (pairs.any (· == (oc w.x.cps.toList[p]? ++ oc w.x.cps.toList[p + 1]?))) = false from e, if_neg Bool.false_ne_true] at h
    refine sq_skip ?_
    simp only [vE, vT, vA, onLoc, onStr, onLst, onInt, onTup, onList, onB, Bin, small, goOn, retOf, turnEnd, List.map_cons, List.map_nil, List.append_nil, List.cons_append, List.nil_append, List.replicate, List.getElem?_cons_zero, List.getElem?_cons_succ, List.set_cons_zero, List.set_cons_succ, List.length_cons, List.length_nil, List.length_append, Nat.zero_add, Nat.reduceAdd, Nat.add_zero]
    refine sq_ife ?_
    simp only [vE, vT, vA, onLoc, onStr, onLst, onInt, onTup, onList, onB, Bin, small, goOn, retOf, turnEnd, List.map_cons, List.map_nil, List.append_nil, List.cons_append, List.nil_append, List.replicate, List.getElem?_cons_zero, List.getElem?_cons_succ, List.set_cons_zero, List.set_cons_succ, List.length_cons, List.length_nil, List.length_append, Nat.zero_add, Nat.reduceAdd, Nat.add_zero, on_scn S.s]
    refine c_char O (by omega) S ?_
    simp only [vE, vT, vA, onLoc, onStr, onLst, onInt, onTup, onList, onB, Bin, small, goOn, retOf, turnEnd, List.map_cons, List.map_nil, List.append_nil, List.cons_append, List.nil_append, List.replicate, List.getElem?_cons_zero, List.getElem?_cons_succ, List.set_cons_zero, List.set_cons_succ, List.length_cons, List.length_nil, List.length_append, Nat.zero_add, Nat.reduceAdd, Nat.add_zero, Cmp]
    refine ⟨fun e => ?_, fun e => ?_⟩
    · refine sq_ret ?_
      simp only [vE, vT, vA, onLoc, onStr, onLst, onInt, onTup, onList, onB, Bin, small, goOn, retOf, turnEnd, List.map_cons, List.map_nil, List.append_nil, List.cons_append, List.nil_append, List.replicate, List.getElem?_cons_zero, List.getElem?_cons_succ, List.set_cons_zero, List.set_cons_succ, List.length_cons, List.length_nil, List.length_append, Nat.zero_add, Nat.reduceAdd, Nat.add_zero, on_scn S.s]
      refine c_char O (by omega) S ?_
      rw [if_pos e] at h
      exact h
    · refine sq_skip ?_
      simp only [vE, vT, vA, onLoc, onStr, onLst, onInt, onTup, onList, onB, Bin, small, goOn, retOf, turnEnd, List.map_cons, List.map_nil, List.append_nil, List.cons_append, List.nil_append, List.replicate, List.getElem?_cons_zero, List.getElem?_cons_succ, List.set_cons_zero, List.set_cons_succ, List.length_cons, List.length_nil, List.length_append, Nat.zero_add, Nat.reduceAdd, Nat.add_zero]
      refine sq_ret ?_
      simp only [vE, vT, vA, onLoc, onStr, onLst, onInt, onTup, onList, onB, Bin, small, goOn, retOf, turnEnd, List.map_cons, List.map_nil, List.append_nil, List.cons_append, List.nil_append, List.replicate, List.getElem?_cons_zero, List.getElem?_cons_succ, List.set_cons_zero, List.set_cons_succ, List.length_cons, List.length_nil, List.length_append, Nat.zero_add, Nat.reduceAdd, Nat.add_zero]
      rw [e, if_neg Bool.false_ne_true] at h
      exact h
end
end Mine
end
section
set_option maxRecDepth 20000
namespace Mine
noncomputable def At (cs : List Nat) (p : Nat) (l : List Nat) : Prop := cs.drop p = l ∧ p ≤ cs.length
section
variable {cs l t : List Nat} {p c : Nat}
theorem At.h0 (h : At cs p l) : cs[p]? = l[0]? := by rw [← h.1, List.getElem?_drop]; rfl
theorem At.h1 (h : At cs p l) : cs[p + 1]? = l[1]? := by rw [← h.1, List.getElem?_drop]
theorem At.pos (h : At cs p l) : p + l.length = cs.length := by
  have := h.2
  rw [← h.1, List.length_drop]
  omega
theorem At.step (h : At cs p (c :: t)) : At cs (p + 1) t := by
  have := h.pos
  rw [List.length_cons] at this
  refine ⟨?_, by omega⟩
  rw [← List.drop_drop, h.1]
  rfl
theorem At.app {a b : List Nat} (h : At cs p (a ++ b)) : At cs (p + a.length) b := by
  have := h.pos
  rw [List.length_append] at this
  refine ⟨?_, by omega⟩
  rw [← List.drop_drop, h.1]
  simp
end
inductive Rem : Nat → List Nat → Option (List Nat) → Prop
  | done (l : List Nat) : Rem 0 l (some l)
  | nil (d : Nat) : Rem (d + 1) [] none
  | opn {d : Nat} {t : List Nat} {R : Option (List Nat)} (h : Rem (d + 2) t R) : Rem (d + 1) (40 :: 42 :: t) R
  | cls {d : Nat} {t : List Nat} {R : Option (List Nat)} (h : Rem d t R) : Rem (d + 1) (42 :: 41 :: t) R
  | oth {d c : Nat} {t : List Nat} {R : Option (List Nat)} (h1 : ¬ (c = 40 ∧ t[0]? = some 42)) (h2 : ¬ (c = 42 ∧ t[0]? = some 41)) (h : Rem (d + 1) t R) : Rem (d + 1) (c :: t) R
inductive Gap : List Nat → List Nat → Option Nat → Prop
  | stop {l : List Nat} (h1 : ∀ c, l[0]? = some c → 32 < c) (h2 : ¬ (l[0]? = some 40 ∧ l[1]? = some 42)) : Gap l l none
  | blank {c : Nat} {t r : List Nat} {u : Option Nat} (hc : c ≤ 32) (h : Gap t r u) : Gap (c :: t) r u
  | rem {t t' r : List Nat} {u : Option Nat} (hr : Rem 1 t (some t')) (h : Gap t' r u) : Gap (40 :: 42 :: t) r u
  | unf {t : List Nat} (hr : Rem 1 t none) : Gap (40 :: 42 :: t) [] (some (t.length + 2))
theorem oc_app (a b : Option Nat) : (oc a ++ oc b).cps.toList = a.toList ++ b.toList := by cases a <;> cases b <;> rfl
theorem pr_nil (a b : Option Nat) : (oc a ++ oc b == ⟨#[]⟩) = (a.isNone && b.isNone) := by
  rw [beq_str, oc_app]
  cases a <;> cases b <;> rfl
theorem pr_two (a b : Option Nat) (x y : Nat) : (oc a ++ oc b == ⟨#[x, y]⟩) = (a == some x && b == some y) := by
  rw [beq_str, oc_app]
  cases a <;> cases b <;> simp
theorem s_open : PySem.Str.ofString "(*" = ⟨#[40, 42]⟩ := by decide
theorem s_close : PySem.Str.ofString "*)" = ⟨#[42, 41]⟩ := by decide
theorem s_par : PySem.Str.ofString "(" = ⟨#[40]⟩ := by decide
theorem s_star : PySem.Str.ofString "*" = ⟨#[42]⟩ := by decide
noncomputable def mk1 (p : Nat) (code : Str) : AV := .tup [.int (p : Int), .str code]
inductive RmI (w : Wd) (p : Nat) (R : Option (List Nat)) (rows : List AV) (ks : List Int) (hp : List AO) : ASt → Prop
  | mk (q d : Nat) (l : List Nat) (e : Int) (he : e = (d : Int)) (o : Option AV) (hp' : List AO) (hA : At w.x.cps.toList q l) (hR : Rem d l R) (S : Sc w q rows ks hp') (N : Nx w hp hp') (L : hp'.length = hp.length) (hpq : p < q) : RmI w p R rows ks hp ⟨[some (.obj w.i), some (.int p), some (.int e), o], hp'⟩
section
variable {G : Gl} {n : Nat} {hp : List AO} {w : Wd} {p : Nat} {rows : List AV} {ks : List Int} {P : AV → List AO → Prop}
theorem c_remark (O : Ok G) (hn : 2 ≤ n) (S : Sc w p rows ks hp) {t : List Nat} {R : Option (List Nat)} (hA : At w.x.cps.toList p (40 :: 42 :: t)) (hR : Rem 1 t R)
    (h1 : ∀ r q hp', R = some r → At w.x.cps.toList q r → p < q → Sc w q rows ks hp' → Nx w hp hp' → hp'.length = hp.length → P .none hp')
    (h2 : R = none → (ks.contains (p : Int) = false ∧ rows.length ≤ 1000 ∧ ks.length ≤ 1000) ∧ ∀ hp', Sc w w.x.cps.toList.length (rows ++ [mk1 p "unfinished_comment"]) ((p : Int) :: ks) hp' → Nx w hp hp' → hp'.length = hp.length → P .none hp') :
    TF G n aRemark [.obj w.i] hp P := by
  obtain ⟨Pm, hK⟩ := O.hk
  refine (f_Scanner_remark hK).at O.tab 1 hn rfl ?_
  unfold ir_Scanner_remark
  refine sq_set ?_
  simp only [vE, vT, vA, onLoc, onStr, onLst, onInt, onTup, onList, onB, Bin, small, goOn, retOf, turnEnd, List.map_cons, List.map_nil, List.append_nil, List.cons_append, List.nil_append, List.replicate, List.getElem?_cons_zero, List.getElem?_cons_succ, List.set_cons_zero, List.set_cons_succ, List.length_cons, List.length_nil, List.length_append, Nat.zero_add, Nat.reduceAdd, Nat.add_zero, at_plc S.s]
  refine sq_set ?_
  simp only [vE, vT, vA, onLoc, onStr, onLst, onInt, onTup, onList, onB, Bin, small, goOn, retOf, turnEnd, List.map_cons, List.map_nil, List.append_nil, List.cons_append, List.nil_append, List.replicate, List.getElem?_cons_zero, List.getElem?_cons_succ, List.set_cons_zero, List.set_cons_succ, List.length_cons, List.length_nil, List.length_append, Nat.zero_add, Nat.reduceAdd, Nat.add_zero]
  refine sq_setA ?_
  simp only [vE, vT, vA, onLoc, onStr, onLst, onInt, onTup, onList, onB, Bin, small, goOn, retOf, turnEnd, List.map_cons, List.map_nil, List.append_nil, List.cons_append, List.nil_append, List.replicate, List.getElem?_cons_zero, List.getElem?_cons_succ, List.set_cons_zero, List.set_cons_succ, List.length_cons, List.length_nil, List.length_append, Nat.zero_add, Nat.reduceAdd, Nat.add_zero, set_plc O S.s]
  have S' := S.go (p + 2)
  rw [show (p : Int) + 2 = ((p + 2 : Nat) : Int) by omega]
  refine sq_whl ?_
  refine ⟨RmI w p R rows ks hp,
    fun st => w.x.cps.toList.length - plc w st, ⟨p + 2, 1, t, _, rfl, none, _, hA.step.step, hR, S', .set (.inl rfl), by simp, by omega⟩, ?_⟩
  intro st1 hi
  obtain ⟨q, d, l, e, he, o, hp1, hA1, hR1, S1, N1, L1, hpq⟩ := hi
  subst he
  simp only [vE, vT, vA, onLoc, onStr, onLst, onInt, onTup, onList, onB, Bin, small, goOn, retOf, turnEnd, List.map_cons, List.map_nil, List.append_nil, List.cons_append, List.nil_append, List.replicate, List.getElem?_cons_zero, List.getElem?_cons_succ, List.set_cons_zero, List.set_cons_succ, List.length_cons, List.length_nil, List.length_append, Nat.zero_add, Nat.reduceAdd, Nat.add_zero, Cmp]
  refine ⟨fun hd => ?_, fun hd => ?_⟩
  · have hd := of_decide_eq_true hd
    have hpl := hA1.pos
    refine sq_set ?_
    simp only [vE, vT, vA, onLoc, onStr, onLst, onInt, onTup, onList, onB, Bin, small, goOn, retOf, turnEnd, List.map_cons, List.map_nil, List.append_nil, List.cons_append, List.nil_append, List.replicate, List.getElem?_cons_zero, List.getElem?_cons_succ, List.set_cons_zero, List.set_cons_succ, List.length_cons, List.length_nil, List.length_append, Nat.zero_add, Nat.reduceAdd, Nat.add_zero, on_scn S1.s]
    refine c_char O (by omega) S1 ?_
    simp only [vE, vT, vA, onLoc, onStr, onLst, onInt, onTup, onList, onB, Bin, small, goOn, retOf, turnEnd, List.map_cons, List.map_nil, List.append_nil, List.cons_append, List.nil_append, List.replicate, List.getElem?_cons_zero, List.getElem?_cons_succ, List.set_cons_zero, List.set_cons_succ, List.length_cons, List.length_nil, List.length_append, Nat.zero_add, Nat.reduceAdd, Nat.add_zero, on_scn S1.s]
    refine c_char1 O (by omega) S1 ?_
    simp only [vE, vT, vA, onLoc, onStr, onLst, onInt, onTup, onList, onB, Bin, small, goOn, retOf, turnEnd, List.map_cons, List.map_nil, List.append_nil, List.cons_append, List.nil_append, List.replicate, List.getElem?_cons_zero, List.getElem?_cons_succ, List.set_cons_zero, List.set_cons_succ, List.length_cons, List.length_nil, List.length_append, Nat.zero_add, Nat.reduceAdd, Nat.add_zero]
    refine ⟨Nat.le_trans (Nat.add_le_add (oc_len _) (oc_len _)) (by decide), ?_⟩
    have ha := hA1.h0
    have hb := hA1.h1
    generalize w.x.cps.toList[q]? = a at *
    generalize w.x.cps.toList[q + 1]? = b at *
    cases hR1 with
    | done => omega
    | nil d =>
      have e0 : (a.isNone && b.isNone) = true := by rw [ha, hb]; rfl
      refine sq_ife ?_
      simp only [vE, vT, vA, onLoc, onStr, onLst, onInt, onTup, onList, onB, Bin, small, goOn, retOf, turnEnd, List.map_cons, List.map_nil, List.append_nil, List.cons_append, List.nil_append, List.replicate, List.getElem?_cons_zero, List.getElem?_cons_succ, List.set_cons_zero, List.set_cons_succ, List.length_cons, List.length_nil, List.length_append, Nat.zero_add, Nat.reduceAdd, Nat.add_zero, Cmp, s_nil, pr_nil, e0]
      refine fork_t ?_
      refine sq_exp ?_
      simp only [vE, vT, vA, onLoc, onStr, onLst, onInt, onTup, onList, onB, Bin, small, goOn, retOf, turnEnd, List.map_cons, List.map_nil, List.append_nil, List.cons_append, List.nil_append, List.replicate, List.getElem?_cons_zero, List.getElem?_cons_succ, List.set_cons_zero, List.set_cons_succ, List.length_cons, List.length_nil, List.length_append, Nat.zero_add, Nat.reduceAdd, Nat.add_zero, at_err S1.s, on_erl S1.e]
      obtain ⟨⟨g1, g2, g3⟩, h2⟩ := h2 rfl
      refine c_mark O (by omega) S1 g1 g2 g3 fun hp2 S2 N2 L2 => ?_
      refine sq_ret ?_
      simp only [vE, vT, vA, onLoc, onStr, onLst, onInt, onTup, onList, onB, Bin, small, goOn, retOf, turnEnd, List.map_cons, List.map_nil, List.append_nil, List.cons_append, List.nil_append, List.replicate, List.getElem?_cons_zero, List.getElem?_cons_succ, List.set_cons_zero, List.set_cons_succ, List.length_cons, List.length_nil, List.length_append, Nat.zero_add, Nat.reduceAdd, Nat.add_zero]
      rw [show q = w.x.cps.toList.length by simpa using hpl] at S2
      exact h2 hp2 S2 (N1.trans N2) (by omega)
    | @opn d t R h =>
      have e0 : (a.isNone && b.isNone) = false := by rw [ha, hb]; rfl
      have e1 : (a == some 40 && b == some 42) = true := by rw [ha, hb]; rfl
      refine sq_ife ?_
      simp only [vE, vT, vA, onLoc, onStr, onLst, onInt, onTup, onList, onB, Bin, small, goOn, retOf, turnEnd, List.map_cons, List.map_nil, List.append_nil, List.cons_append, List.nil_append, List.replicate, List.getElem?_cons_zero, List.getElem?_cons_succ, List.set_cons_zero, List.set_cons_succ, List.length_cons, List.length_nil, List.length_append, Nat.zero_add, Nat.reduceAdd, Nat.add_zero, Cmp, s_nil, pr_nil, e0]
      refine fork_f ?_
      refine sq_skip ?_
      simp only [vE, vT, vA, onLoc, onStr, onLst, onInt, onTup, onList, onB, Bin, small, goOn, retOf, turnEnd, List.map_cons, List.map_nil, List.append_nil, List.cons_append, List.nil_append, List.replicate, List.getElem?_cons_zero, List.getElem?_cons_succ, List.set_cons_zero, List.set_cons_succ, List.length_cons, List.length_nil, List.length_append, Nat.zero_add, Nat.reduceAdd, Nat.add_zero]
      refine sq_ife ?_
      simp only [vE, vT, vA, onLoc, onStr, onLst, onInt, onTup, onList, onB, Bin, small, goOn, retOf, turnEnd, List.map_cons, List.map_nil, List.append_nil, List.cons_append, List.nil_append, List.replicate, List.getElem?_cons_zero, List.getElem?_cons_succ, List.set_cons_zero, List.set_cons_succ, List.length_cons, List.length_nil, List.length_append, Nat.zero_add, Nat.reduceAdd, Nat.add_zero, Cmp, s_open, pr_two, e1]
      refine fork_t ?_
      refine sq_set ?_
      simp only [vE, vT, vA, onLoc, onStr, onLst, onInt, onTup, onList, onB, Bin, small, goOn, retOf, turnEnd, List.map_cons, List.map_nil, List.append_nil, List.cons_append, List.nil_append, List.replicate, List.getElem?_cons_zero, List.getElem?_cons_succ, List.set_cons_zero, List.set_cons_succ, List.length_cons, List.length_nil, List.length_append, Nat.zero_add, Nat.reduceAdd, Nat.add_zero]
      refine sq_setA ?_
      simp only [vE, vT, vA, onLoc, onStr, onLst, onInt, onTup, onList, onB, Bin, small, goOn, retOf, turnEnd, List.map_cons, List.map_nil, List.append_nil, List.cons_append, List.nil_append, List.replicate, List.getElem?_cons_zero, List.getElem?_cons_succ, List.set_cons_zero, List.set_cons_succ, List.length_cons, List.length_nil, List.length_append, Nat.zero_add, Nat.reduceAdd, Nat.add_zero, at_plc S1.s, set_plc O S1.s]
      refine sq_skip ?_
      simp only [vE, vT, vA, onLoc, onStr, onLst, onInt, onTup, onList, onB, Bin, small, goOn, retOf, turnEnd, List.map_cons, List.map_nil, List.append_nil, List.cons_append, List.nil_append, List.replicate, List.getElem?_cons_zero, List.getElem?_cons_succ, List.set_cons_zero, List.set_cons_succ, List.length_cons, List.length_nil, List.length_append, Nat.zero_add, Nat.reduceAdd, Nat.add_zero]
      refine sq_skip ?_
      have S2 := S1.go (q + 2)
      rw [show (q : Int) + 2 = ((q + 2 : Nat) : Int) by omega]
      refine ⟨⟨q + 2, d + 2, t, _, by omega, some (.str (oc a ++ oc b)), _, hA1.step.step, h, S2, N1.trans (.set (.inl rfl)), by simp [L1], by omega⟩, ?_⟩
      rw [S1.plc, S2.plc]; simp only [List.length_cons] at hpl; omega
    | @cls d t R h =>
      have e0 : (a.isNone && b.isNone) = false := by rw [ha, hb]; rfl
      have e1 : (a == some 40 && b == some 42) = false := by rw [ha, hb]; rfl
      have e2 : (a == some 42 && b == some 41) = true := by rw [ha, hb]; rfl
      refine sq_ife ?_
      simp only [vE, vT, vA, onLoc, onStr, onLst, onInt, onTup, onList, onB, Bin, small, goOn, retOf, turnEnd, List.map_cons, List.map_nil, List.append_nil, List.cons_append, List.nil_append, List.replicate, List.getElem?_cons_zero, List.getElem?_cons_succ, List.set_cons_zero, List.set_cons_succ, List.length_cons, List.length_nil, List.length_append, Nat.zero_add, Nat.reduceAdd, Nat.add_zero, Cmp, s_nil, pr_nil, e0]
      refine fork_f ?_
      refine sq_skip ?_
      simp only [vE, vT, vA, onLoc, onStr, onLst, onInt, onTup, onList, onB, Bin, small, goOn, retOf, turnEnd, List.map_cons, List.map_nil, List.append_nil, List.cons_append, List.nil_append, List.replicate, List.getElem?_cons_zero, List.getElem?_cons_succ, List.set_cons_zero, List.set_cons_succ, List.length_cons, List.length_nil, List.length_append, Nat.zero_add, Nat.reduceAdd, Nat.add_zero]
      refine sq_ife ?_
      simp only [vE, vT, vA, onLoc, onStr, onLst, onInt, onTup, onList, onB, Bin, small, goOn, retOf, turnEnd, List.map_cons, List.map_nil, List.append_nil, List.cons_append, List.nil_append, List.replicate, List.getElem?_cons_zero, List.getElem?_cons_succ, List.set_cons_zero, List.set_cons_succ, List.length_cons, List.length_nil, List.length_append, Nat.zero_add, Nat.reduceAdd, Nat.add_zero, Cmp, s_open, pr_two, e1]
      refine fork_f ?_
      refine sq_ife ?_
      simp only [vE, vT, vA, onLoc, onStr, onLst, onInt, onTup, onList, onB, Bin, small, goOn, retOf, turnEnd, List.map_cons, List.map_nil, List.append_nil, List.cons_append, List.nil_append, List.replicate, List.getElem?_cons_zero, List.getElem?_cons_succ, List.set_cons_zero, List.set_cons_succ, List.length_cons, List.length_nil, List.length_append, Nat.zero_add, Nat.reduceAdd, Nat.add_zero, Cmp, s_close, pr_two, e2]
      refine fork_t ?_
      refine sq_set ?_
      simp only [vE, vT, vA, onLoc, onStr, onLst, onInt, onTup, onList, onB, Bin, small, goOn, retOf, turnEnd, List.map_cons, List.map_nil, List.append_nil, List.cons_append, List.nil_append, List.replicate, List.getElem?_cons_zero, List.getElem?_cons_succ, List.set_cons_zero, List.set_cons_succ, List.length_cons, List.length_nil, List.length_append, Nat.zero_add, Nat.reduceAdd, Nat.add_zero]
      refine sq_setA ?_
      simp only [vE, vT, vA, onLoc, onStr, onLst, onInt, onTup, onList, onB, Bin, small, goOn, retOf, turnEnd, List.map_cons, List.map_nil, List.append_nil, List.cons_append, List.nil_append, List.replicate, List.getElem?_cons_zero, List.getElem?_cons_succ, List.set_cons_zero, List.set_cons_succ, List.length_cons, List.length_nil, List.length_append, Nat.zero_add, Nat.reduceAdd, Nat.add_zero, at_plc S1.s, set_plc O S1.s]
      refine sq_skip ?_
      simp only [vE, vT, vA, onLoc, onStr, onLst, onInt, onTup, onList, onB, Bin, small, goOn, retOf, turnEnd, List.map_cons, List.map_nil, List.append_nil, List.cons_append, List.nil_append, List.replicate, List.getElem?_cons_zero, List.getElem?_cons_succ, List.set_cons_zero, List.set_cons_succ, List.length_cons, List.length_nil, List.length_append, Nat.zero_add, Nat.reduceAdd, Nat.add_zero]
      refine sq_skip ?_
      simp only [vE, vT, vA, onLoc, onStr, onLst, onInt, onTup, onList, onB, Bin, small, goOn, retOf, turnEnd, List.map_cons, List.map_nil, List.append_nil, List.cons_append, List.nil_append, List.replicate, List.getElem?_cons_zero, List.getElem?_cons_succ, List.set_cons_zero, List.set_cons_succ, List.length_cons, List.length_nil, List.length_append, Nat.zero_add, Nat.reduceAdd, Nat.add_zero]
      refine sq_skip ?_
      have S2 := S1.go (q + 2)
      rw [show (q : Int) + 2 = ((q + 2 : Nat) : Int) by omega]
      refine ⟨⟨q + 2, d, t, _, by omega, some (.str (oc a ++ oc b)), _, hA1.step.step, h, S2, N1.trans (.set (.inl rfl)), by simp [L1], by omega⟩, ?_⟩
      rw [S1.plc, S2.plc]; simp only [List.length_cons] at hpl; omega
    | @oth d c t R g1 g2 h =>
      have e0 : (a.isNone && b.isNone) = false := by rw [ha, hb]; rfl
      have e1 : (a == some 40 && b == some 42) = false := by
        rw [ha, hb, Bool.and_eq_false_iff, beq_eq_false_iff_ne, beq_eq_false_iff_ne]
        by_cases e : c = 40
        · exact .inr fun z => g1 ⟨e, by simpa using z⟩
        · exact .inl fun z => e (by simpa using z)
      have e2 : (a == some 42 && b == some 41) = false := by
        rw [ha, hb, Bool.and_eq_false_iff, beq_eq_false_iff_ne, beq_eq_false_iff_ne]
        by_cases e : c = 42
        · exact .inr fun z => g2 ⟨e, by simpa using z⟩
        · exact .inl fun z => e (by simpa using z)
      refine sq_ife ?_
      simp only [vE, vT, vA, onLoc, onStr, onLst, onInt, onTup, onList, onB, Bin, small, goOn, retOf, turnEnd, List.map_cons, List.map_nil, List.append_nil, List.cons_append, List.nil_append, List.replicate, List.getElem?_cons_zero, List.getElem?_cons_succ, List.set_cons_zero, List.set_cons_succ, List.length_cons, List.length_nil, List.length_append, Nat.zero_add, Nat.reduceAdd, Nat.add_zero, Cmp, s_nil, pr_nil, e0]
      refine fork_f ?_
      refine sq_skip ?_
      simp only [vE, vT, vA, onLoc, onStr, onLst, onInt, onTup, onList, onB, Bin, small, goOn, retOf, turnEnd, List.map_cons, List.map_nil, List.append_nil, List.cons_append, List.nil_append, List.replicate, List.getElem?_cons_zero, List.getElem?_cons_succ, List.set_cons_zero, List.set_cons_succ, List.length_cons, List.length_nil, List.length_append, Nat.zero_add, Nat.reduceAdd, Nat.add_zero]
      refine sq_ife ?_
      simp only [vE, vT, vA, onLoc, onStr, onLst, onInt, onTup, onList, onB, Bin, small, goOn, retOf, turnEnd, List.map_cons, List.map_nil, List.append_nil, List.cons_append, List.nil_append, List.replicate, List.getElem?_cons_zero, List.getElem?_cons_succ, List.set_cons_zero, List.set_cons_succ, List.length_cons, List.length_nil, List.length_append, Nat.zero_add, Nat.reduceAdd, Nat.add_zero, Cmp, s_open, pr_two, e1]
      refine fork_f ?_
      refine sq_ife ?_
      simp only [vE, vT, vA, onLoc, onStr, onLst, onInt, onTup, onList, onB, Bin, small, goOn, retOf, turnEnd, List.map_cons, List.map_nil, List.append_nil, List.cons_append, List.nil_append, List.replicate, List.getElem?_cons_zero, List.getElem?_cons_succ, List.set_cons_zero, List.set_cons_succ, List.length_cons, List.length_nil, List.length_append, Nat.zero_add, Nat.reduceAdd, Nat.add_zero, Cmp, s_close, pr_two, e2]
      refine fork_f ?_
      refine sq_setA ?_
      simp only [vE, vT, vA, onLoc, onStr, onLst, onInt, onTup, onList, onB, Bin, small, goOn, retOf, turnEnd, List.map_cons, List.map_nil, List.append_nil, List.cons_append, List.nil_append, List.replicate, List.getElem?_cons_zero, List.getElem?_cons_succ, List.set_cons_zero, List.set_cons_succ, List.length_cons, List.length_nil, List.length_append, Nat.zero_add, Nat.reduceAdd, Nat.add_zero, at_plc S1.s, set_plc O S1.s]
      refine sq_skip ?_
      simp only [vE, vT, vA, onLoc, onStr, onLst, onInt, onTup, onList, onB, Bin, small, goOn, retOf, turnEnd, List.map_cons, List.map_nil, List.append_nil, List.cons_append, List.nil_append, List.replicate, List.getElem?_cons_zero, List.getElem?_cons_succ, List.set_cons_zero, List.set_cons_succ, List.length_cons, List.length_nil, List.length_append, Nat.zero_add, Nat.reduceAdd, Nat.add_zero]
      refine sq_skip ?_
      simp only [vE, vT, vA, onLoc, onStr, onLst, onInt, onTup, onList, onB, Bin, small, goOn, retOf, turnEnd, List.map_cons, List.map_nil, List.append_nil, List.cons_append, List.nil_append, List.replicate, List.getElem?_cons_zero, List.getElem?_cons_succ, List.set_cons_zero, List.set_cons_succ, List.length_cons, List.length_nil, List.length_append, Nat.zero_add, Nat.reduceAdd, Nat.add_zero]
      refine sq_skip ?_
      have S2 := S1.go (q + 1)
      rw [show (q : Int) + 1 = ((q + 1 : Nat) : Int) by omega]
      refine ⟨⟨q + 1, d + 1, t, _, rfl, some (.str (oc a ++ oc b)), _, hA1.step, h, S2, N1.trans (.set (.inl rfl)), by simp [L1], by omega⟩, ?_⟩
      rw [S1.plc, S2.plc]; simp only [List.length_cons] at hpl; omega
  · have hd := of_decide_eq_false hd
    have hd : d = 0 := by omega
    subst hd
    cases hR1
    refine sq_skip ?_
    exact h1 _ _ _ rfl hA1 hpq S1 N1 L1
noncomputable def uRows (N : Nat) (rows : List AV) : Option Nat → List AV
  | none => rows
  | some k => rows ++ [mk1 (N - k) "unfinished_comment"]
noncomputable def uKs (N : Nat) (ks : List Int) : Option Nat → List Int
  | none => ks
  | some k => ((N - k : Nat) : Int) :: ks
theorem t_and {G : Gl} {n : Nat} {st : ASt} {t1 t2 : IT} {x y : Bool} {Q : Bool → ASt → Prop} (h1 : ∀ R, R x st → vT G n t1 st R) (h2 : x = true → ∀ R, R y st → vT G n t2 st R) (h : Q (x && y) st) : vT G n (.and t1 t2) st Q := by
  simp only [vE, vT, vA, onLoc, onStr, onLst, onInt, onTup, onList, onB, Bin, small, goOn, retOf, turnEnd, List.map_cons, List.map_nil, List.append_nil, List.cons_append, List.nil_append, List.replicate, List.getElem?_cons_zero, List.getElem?_cons_succ, List.set_cons_zero, List.set_cons_succ, List.length_cons, List.length_nil, List.length_append, Nat.zero_add, Nat.reduceAdd, Nat.add_zero]
  refine h1 _ ⟨fun e => h2 e _ ?_, fun e => ?_⟩
  · rw [e, Bool.true_and] at h; exact h
  · rw [e, Bool.false_and] at h; exact h
end
inductive SkI (w : Wd) (p : Nat) (rows : List AV) (ks : List Int) (u : Option Nat) (r : List Nat) (hp : List AO) : ASt → Prop
  | mk (q : Nat) (rows' : List AV) (ks' : List Int) (l' : List Nat) (u' : Option Nat) (o : Option AV) (hp' : List AO) (hA : At w.x.cps.toList q l') (hG : Gap l' r u') (hu1 : uRows w.x.cps.toList.length rows' u' = uRows w.x.cps.toList.length rows u) (hu2 : uKs w.x.cps.toList.length ks' u' = uKs w.x.cps.toList.length ks u)
      (hu3 : ∀ k, u' = some k → rows' = rows ∧ ks' = ks) (S : Sc w q rows' ks' hp') (N : Nx w hp hp') (L : hp'.length = hp.length) (hpq : p ≤ q) : SkI w p rows ks u r hp ⟨[some (.obj w.i), o, none], hp'⟩
section
variable {G : Gl} {n : Nat} {hp : List AO} {w : Wd} {p : Nat} {rows : List AV} {ks : List Int} {P : AV → List AO → Prop}
theorem c_skip (O : Ok G) (hn : 3 ≤ n) (S : Sc w p rows ks hp) {l r : List Nat} {u : Option Nat} (hA : At w.x.cps.toList p l) (hG : Gap l r u) (hk : ∀ k ∈ ks, k < (p : Int)) (h1 : rows.length ≤ 1000) (h2 : ks.length ≤ 1000)
    (h : ∀ q hp', At w.x.cps.toList q r → p ≤ q → Sc w q (uRows w.x.cps.toList.length rows u) (uKs w.x.cps.toList.length ks u) hp' → Nx w hp hp' → hp'.length = hp.length → P .none hp') :
    TF G n aSkip [.obj w.i] hp P := by
  obtain ⟨Pm, hK⟩ := O.hk
  refine (f_Scanner_skip hK).at O.tab 2 hn rfl ?_
  unfold ir_Scanner_skip
  refine sq_whl ?_
  refine ⟨SkI w p rows ks u r hp,
    fun st => w.x.cps.toList.length - plc w st, ⟨p, rows, ks, l, u, none, hp, hA, hG, rfl, rfl, fun _ _ => ⟨rfl, rfl⟩, S, .refl, rfl, Nat.le_refl _⟩, ?_⟩
  intro st1 hi
  obtain ⟨q, rows', ks', l', u', o, hp1, hA1, hG1, hu1, hu2, hu3, S1, N1, L1, hpq⟩ := hi
  simp only [vE, vT, vA, onLoc, onStr, onLst, onInt, onTup, onList, onB, Bin, small, goOn, retOf, turnEnd, List.map_cons, List.map_nil, List.append_nil, List.cons_append, List.nil_append, List.replicate, List.getElem?_cons_zero, List.getElem?_cons_succ, List.set_cons_zero, List.set_cons_succ, List.length_cons, List.length_nil, List.length_append, Nat.zero_add, Nat.reduceAdd, Nat.add_zero]
  refine fork_t ?_
  have hpl := hA1.pos
  refine sq_set ?_
  simp only [vE, vT, vA, onLoc, onStr, onLst, onInt, onTup, onList, onB, Bin, small, goOn, retOf, turnEnd, List.map_cons, List.map_nil, List.append_nil, List.cons_append, List.nil_append, List.replicate, List.getElem?_cons_zero, List.getElem?_cons_succ, List.set_cons_zero, List.set_cons_succ, List.length_cons, List.length_nil, List.length_append, Nat.zero_add, Nat.reduceAdd, Nat.add_zero, on_scn S1.s]
  refine c_char O (by omega) S1 ?_
  have ha := hA1.h0
  have hb := hA1.h1
  generalize w.x.cps.toList[q]? = a at *
  generalize hbe : w.x.cps.toList[q + 1]? = b at *
  refine sq_ife (t_and (x := a == some 40) (y := b == some 42) (fun R h => ?_) (fun _ R h => ?_) ?_)
  · simp only [vE, vT, vA, onLoc, onStr, onLst, onInt, onTup, onList, onB, Bin, small, goOn, retOf, turnEnd, List.map_cons, List.map_nil, List.append_nil, List.cons_append, List.nil_append, List.replicate, List.getElem?_cons_zero, List.getElem?_cons_succ, List.set_cons_zero, List.set_cons_succ, List.length_cons, List.length_nil, List.length_append, Nat.zero_add, Nat.reduceAdd, Nat.add_zero, Cmp, s_par, oc_one]
    exact h
  · simp only [vE, vT, vA, onLoc, onStr, onLst, onInt, onTup, onList, onB, Bin, small, goOn, retOf, turnEnd, List.map_cons, List.map_nil, List.append_nil, List.cons_append, List.nil_append, List.replicate, List.getElem?_cons_zero, List.getElem?_cons_succ, List.set_cons_zero, List.set_cons_succ, List.length_cons, List.length_nil, List.length_append, Nat.zero_add, Nat.reduceAdd, Nat.add_zero, on_scn S1.s]
    refine c_char1 O (by omega) S1 ?_
    simp only [vE, vT, vA, onLoc, onStr, onLst, onInt, onTup, onList, onB, Bin, small, goOn, retOf, turnEnd, List.map_cons, List.map_nil, List.append_nil, List.cons_append, List.nil_append, List.replicate, List.getElem?_cons_zero, List.getElem?_cons_succ, List.set_cons_zero, List.set_cons_succ, List.length_cons, List.length_nil, List.length_append, Nat.zero_add, Nat.reduceAdd, Nat.add_zero, Cmp, s_star, oc_one, hbe]
    exact h
  refine ⟨fun e => ?_, fun e => ?_⟩
  · rw [Bool.and_eq_true, beq_iff_eq, beq_iff_eq, ha, hb] at e
    refine sq_exp ?_
    simp only [vE, vT, vA, onLoc, onStr, onLst, onInt, onTup, onList, onB, Bin, small, goOn, retOf, turnEnd, List.map_cons, List.map_nil, List.append_nil, List.cons_append, List.nil_append, List.replicate, List.getElem?_cons_zero, List.getElem?_cons_succ, List.set_cons_zero, List.set_cons_succ, List.length_cons, List.length_nil, List.length_append, Nat.zero_add, Nat.reduceAdd, Nat.add_zero, on_scn S1.s]
    cases hG1 with
    | stop g1 g2 => exact absurd e g2
    | blank hc _ =>
      have := e.1
      simp only [List.getElem?_cons_zero, Option.some.injEq] at this
      omega
    | rem hr hg =>
      refine c_remark O (by omega) S1 hA1 hr (fun r2 q2 hp2 z hA2 hlt S2 N2 L2 => ?_) (fun z => by cases z)
      cases z
      refine sq_skip ?_
      simp only [vE, vT, vA, onLoc, onStr, onLst, onInt, onTup, onList, onB, Bin, small, goOn, retOf, turnEnd, List.map_cons, List.map_nil, List.append_nil, List.cons_append, List.nil_append, List.replicate, List.getElem?_cons_zero, List.getElem?_cons_succ, List.set_cons_zero, List.set_cons_succ, List.length_cons, List.length_nil, List.length_append, Nat.zero_add, Nat.reduceAdd, Nat.add_zero]
      refine sq_skip ?_
      refine ⟨⟨q2, rows', ks', _, u', _, hp2, hA2, hg, hu1, hu2, hu3, S2, N1.trans N2, by omega, by omega⟩, ?_⟩
      rw [S1.plc, S2.plc]
      have hp2' := hA2.pos
      simp only [List.length_cons] at hpl; omega
    | @unf t hr =>
      obtain ⟨z1, z2⟩ := hu3 _ rfl
      subst z1 z2
      have hq : w.x.cps.toList.length - (t.length + 2) = q := by
        simp only [List.length_cons] at hpl
        exact (show ∀ a b c : Nat, a + (b + 1 + 1) = c → c - (b + 2) = a by omega) _ _ _ hpl
      refine c_remark O (by omega) S1 hA1 hr (fun r2 q2 hp2 z => by cases z) (fun _ => ⟨⟨?_, h1, h2⟩, fun hp2 S2 N2 L2 => ?_⟩)
      · rw [List.contains_eq_mem, decide_eq_false_iff_not]
        intro hm
        have := hk _ hm
        omega
      · refine sq_skip ?_
        simp only [vE, vT, vA, onLoc, onStr, onLst, onInt, onTup, onList, onB, Bin, small, goOn, retOf, turnEnd, List.map_cons, List.map_nil, List.append_nil, List.cons_append, List.nil_append, List.replicate, List.getElem?_cons_zero, List.getElem?_cons_succ, List.set_cons_zero, List.set_cons_succ, List.length_cons, List.length_nil, List.length_append, Nat.zero_add, Nat.reduceAdd, Nat.add_zero]
        refine sq_skip ?_
        refine ⟨⟨w.x.cps.toList.length, _, _, [], none, _, hp2, ⟨by simp, Nat.le_refl _⟩, .stop (fun c z => by cases z) (fun z => by cases z.1), ?_, ?_, (fun k z => by cases z), S2, N1.trans N2, by omega, by omega⟩, ?_⟩
        · rw [← hu1]; simp only [uRows, hq]
        · rw [← hu2]; simp only [uKs, hq]
        · rw [S1.plc, S2.plc]
          simp only [List.length_cons] at hpl; omega
  · have e : ¬ (l'[0]? = some 40 ∧ l'[1]? = some 42) := by
      rw [← ha, ← hb]
      intro z
      rw [z.1, z.2] at e
      cases e
    cases hG1 with
    | stop g1 g2 =>
      have fin : P .none hp1 := h q hp1 hA1 hpq (by rw [← hu1, ← hu2]; exact S1) N1 L1
      cases a with
      | none =>
        refine sq_ife (t_and (x := false) (y := false) (fun R h => ?_) (fun z => by cases z) (fork_f (sq_ret ?_)))
        · simp only [vE, vT, vA, onLoc, onStr, onLst, onInt, onTup, onList, onB, Bin, small, goOn, retOf, turnEnd, List.map_cons, List.map_nil, List.append_nil, List.cons_append, List.nil_append, List.replicate, List.getElem?_cons_zero, List.getElem?_cons_succ, List.set_cons_zero, List.set_cons_succ, List.length_cons, List.length_nil, List.length_append, Nat.zero_add, Nat.reduceAdd, Nat.add_zero, Cmp, s_nil, bne, oc_none, Option.isNone_none, Bool.not_true]
          exact h
        · simp only [vE, vT, vA, onLoc, onStr, onLst, onInt, onTup, onList, onB, Bin, small, goOn, retOf, turnEnd, List.map_cons, List.map_nil, List.append_nil, List.cons_append, List.nil_append, List.replicate, List.getElem?_cons_zero, List.getElem?_cons_succ, List.set_cons_zero, List.set_cons_succ, List.length_cons, List.length_nil, List.length_append, Nat.zero_add, Nat.reduceAdd, Nat.add_zero]
          exact fin
      | some c =>
        have hc := g1 c ha.symm
        refine sq_ife (t_and (x := true) (y := false) (fun R h => ?_) (fun _ R h => ?_) (fork_f (sq_ret ?_)))
        · simp only [vE, vT, vA, onLoc, onStr, onLst, onInt, onTup, onList, onB, Bin, small, goOn, retOf, turnEnd, List.map_cons, List.map_nil, List.append_nil, List.cons_append, List.nil_append, List.replicate, List.getElem?_cons_zero, List.getElem?_cons_succ, List.set_cons_zero, List.set_cons_succ, List.length_cons, List.length_nil, List.length_append, Nat.zero_add, Nat.reduceAdd, Nat.add_zero, Cmp, s_nil, bne, oc_none, Option.isNone_some, Bool.not_false]
          exact h
        · simp only [vE, vT, vA, onLoc, onStr, onLst, onInt, onTup, onList, onB, Bin, small, goOn, retOf, turnEnd, List.map_cons, List.map_nil, List.append_nil, List.cons_append, List.nil_append, List.replicate, List.getElem?_cons_zero, List.getElem?_cons_succ, List.set_cons_zero, List.set_cons_succ, List.length_cons, List.length_nil, List.length_append, Nat.zero_add, Nat.reduceAdd, Nat.add_zero, Cmp, Ord]
          refine ⟨rfl, ?_⟩
          rw [show decide (((oc (some c)).cps.getD 0 0 : Int) ≤ 32) = false from decide_eq_false (by show ¬ ((c : Int) ≤ 32); omega)]
          exact h
        · simp only [vE, vT, vA, onLoc, onStr, onLst, onInt, onTup, onList, onB, Bin, small, goOn, retOf, turnEnd, List.map_cons, List.map_nil, List.append_nil, List.cons_append, List.nil_append, List.replicate, List.getElem?_cons_zero, List.getElem?_cons_succ, List.set_cons_zero, List.set_cons_succ, List.length_cons, List.length_nil, List.length_append, Nat.zero_add, Nat.reduceAdd, Nat.add_zero]
          exact fin
    | @blank c t r u' hc hg =>
      subst ha
      refine sq_ife (t_and (x := true) (y := true) (fun R h => ?_) (fun _ R h => ?_) (fork_t (sq_setA ?_)))
      · simp only [vE, vT, vA, onLoc, onStr, onLst, onInt, onTup, onList, onB, Bin, small, goOn, retOf, turnEnd, List.map_cons, List.map_nil, List.append_nil, List.cons_append, List.nil_append, List.replicate, List.getElem?_cons_zero, List.getElem?_cons_succ, List.set_cons_zero, List.set_cons_succ, List.length_cons, List.length_nil, List.length_append, Nat.zero_add, Nat.reduceAdd, Nat.add_zero, Cmp, s_nil, bne, oc_none, Option.isNone_some, Bool.not_false]
        exact h
      · simp only [vE, vT, vA, onLoc, onStr, onLst, onInt, onTup, onList, onB, Bin, small, goOn, retOf, turnEnd, List.map_cons, List.map_nil, List.append_nil, List.cons_append, List.nil_append, List.replicate, List.getElem?_cons_zero, List.getElem?_cons_succ, List.set_cons_zero, List.set_cons_succ, List.length_cons, List.length_nil, List.length_append, Nat.zero_add, Nat.reduceAdd, Nat.add_zero, Cmp, Ord]
        refine ⟨rfl, ?_⟩
        rw [show decide (((oc (some c)).cps.getD 0 0 : Int) ≤ 32) = true from decide_eq_true (by show ((c : Int) ≤ 32); omega)]
        exact h
      · simp only [vE, vT, vA, onLoc, onStr, onLst, onInt, onTup, onList, onB, Bin, small, goOn, retOf, turnEnd, List.map_cons, List.map_nil, List.append_nil, List.cons_append, List.nil_append, List.replicate, List.getElem?_cons_zero, List.getElem?_cons_succ, List.set_cons_zero, List.set_cons_succ, List.length_cons, List.length_nil, List.length_append, Nat.zero_add, Nat.reduceAdd, Nat.add_zero, at_plc S1.s, set_plc O S1.s]
        refine sq_skip ?_
        simp only [vE, vT, vA, onLoc, onStr, onLst, onInt, onTup, onList, onB, Bin, small, goOn, retOf, turnEnd, List.map_cons, List.map_nil, List.append_nil, List.cons_append, List.nil_append, List.replicate, List.getElem?_cons_zero, List.getElem?_cons_succ, List.set_cons_zero, List.set_cons_succ, List.length_cons, List.length_nil, List.length_append, Nat.zero_add, Nat.reduceAdd, Nat.add_zero]
        refine sq_skip ?_
        simp only [vE, vT, vA, onLoc, onStr, onLst, onInt, onTup, onList, onB, Bin, small, goOn, retOf, turnEnd, List.map_cons, List.map_nil, List.append_nil, List.cons_append, List.nil_append, List.replicate, List.getElem?_cons_zero, List.getElem?_cons_succ, List.set_cons_zero, List.set_cons_succ, List.length_cons, List.length_nil, List.length_append, Nat.zero_add, Nat.reduceAdd, Nat.add_zero]
        refine sq_skip ?_
        have S2 := S1.go (q + 1)
        rw [show (q : Int) + 1 = ((q + 1 : Nat) : Int) by omega]
        refine ⟨⟨q + 1, rows', ks', t, u', _, _, hA1.step, hg, hu1, hu2, hu3, S2, N1.trans (.set (.inl rfl)), by simp [L1], by omega⟩, ?_⟩
        rw [S1.plc, S2.plc]
        simp only [List.length_cons] at hpl; omega
    | rem hr hg => exact absurd ⟨rfl, rfl⟩ e
    | unf hr => exact absurd ⟨rfl, rfl⟩ e
end
end Mine
end
section
set_option maxRecDepth 20000
namespace Mine
noncomputable def isBad (a b : Option Nat) : Bool := a.isSome && !isLet a && !isDig a && !(a == some 34) && (symb a b == "")
noncomputable def uMs (N : Nat) : Option Nat → List (Nat × Str)
  | none => []
  | some k => [(N - k, "unfinished_comment")]
noncomputable def mkr (ms : List (Nat × Str)) : List AV := ms.map fun m => mk1 m.1 m.2
inductive Lead (N : Nat) : List Nat → List Nat → List (Nat × Str) → Prop
  | here {l r : List Nat} {u : Option Nat} (h : Gap l r u) (hb : isBad r[0]? r[1]? = false) : Lead N l r (uMs N u)
  | bad {l t r : List Nat} {c : Nat} {ms : List (Nat × Str)} (h : Gap l (c :: t) none) (hb : isBad (some c) t[0]? = true) (hl : Lead N t r ms) : Lead N l r ((N - (t.length + 1), "bad_character") :: ms)
theorem uRows_ms (N : Nat) (rows : List AV) (u : Option Nat) : uRows N rows u = rows ++ mkr (uMs N u) := by
  cases u <;> simp [uRows, uMs, mkr]
theorem Rem.le {d : Nat} {t : List Nat} {R : Option (List Nat)} (h : Rem d t R) : ∀ t', R = some t' → t'.length ≤ t.length := by
  induction h with
  | done l => intro t' e; cases e; exact Nat.le_refl _
  | nil d => intro t' e; cases e
  | opn _ ih => intro t' e; have := ih t' e; simp; omega
  | cls _ ih => intro t' e; have := ih t' e; simp; omega
  | oth _ _ _ ih => intro t' e; have := ih t' e; simp; omega
theorem Gap.end' {l r : List Nat} {u : Option Nat} (h : Gap l r u) : ∀ k, u = some k → r = [] ∧ 2 ≤ k ∧ k ≤ l.length := by
  induction h with
  | stop => intro k e; cases e
  | blank _ _ ih => intro k e; obtain ⟨h1, h2, h3⟩ := ih k e; exact ⟨h1, h2, by simp; omega⟩
  | rem hr _ ih => intro k e; obtain ⟨h1, h2, h3⟩ := ih k e; have := hr.le _ rfl; exact ⟨h1, h2, by simp; omega⟩
  | unf hr => intro k e; cases e; exact ⟨rfl, by omega, by simp⟩
set_option genInjectivity false in
structure Disp (G : Gl) (w : Wd) (q : Nat) (a b : Option Nat) (rows : List AV) (ks : List Int) (hp : List AO) (P : AV → List AO → Prop) : Prop where
  eof : a = none → P (.obj hp.length) (hp ++ [tok (.str "eof") (.str "") q])
  wd : isLet a = true → TF G 5 aWord [.obj w.i, .int q] hp P
  nu : isDig a = true → TF G 5 aNumeral [.obj w.i, .int q] hp P
  st : a = some 34 → TF G 5 aString [.obj w.i, .int q] hp P
  sy : isLet a = false → isDig a = false → a ≠ some 34 → symb a b ≠ "" → ∀ hp', Sc w (q + (symb a b).length) rows ks hp' → Nx w hp hp' → hp'.length = hp.length → P (.obj hp'.length) (hp' ++ [tok (.str (symb a b)) (.str "") q])
theorem s_quote : PySem.Str.ofString "\"" = ⟨#[34]⟩ := by decide
theorem symb_len (a b : Option Nat) : (symb a b).length ≤ 2 := by
  have h1 := oc_len a
  have h2 := oc_len b
  have h3 : (oc a ++ oc b).length = (oc a).length + (oc b).length := strLen_append _ _
  unfold symb
  split
  · omega
  · split
    · omega
    · decide
inductive TkI (w : Wd) (p : Nat) (rows : List AV) (ks : List Int) (r : List Nat) (ms : List (Nat × Str)) (hp : List AO) : ASt → Prop
  | mk (q : Nat) (rows' : List AV) (ks' : List Int) (l' : List Nat) (ms' : List (Nat × Str)) (o1 o2 o3 : Option AV) (hp' : List AO) (hA : At w.x.cps.toList q l') (hL : Lead w.x.cps.toList.length l' r ms') (er : rows' ++ mkr ms' = rows ++ mkr ms) (ek : ks'.length + ms'.length ≤ ks.length + ms.length) (el : rows'.length + ms'.length ≤ 1000) (hk : ∀ k ∈ ks', k < (q : Int))
      (S : Sc w q rows' ks' hp') (N : Nx w hp hp') (L : hp'.length = hp.length) (hpq : p ≤ q) : TkI w p rows ks r ms hp ⟨[some (.obj w.i), o1, o2, o3, none, none, none, none], hp'⟩
section
variable {G : Gl} {n : Nat} {hp : List AO} {w : Wd} {p : Nat} {rows : List AV} {ks : List Int} {P : AV → List AO → Prop}
theorem c_take (O : Ok G) (hn : 6 ≤ n) (S : Sc w p rows ks hp) {l r : List Nat} {ms : List (Nat × Str)} (hA : At w.x.cps.toList p l) (hL : Lead w.x.cps.toList.length l r ms) (hk : ∀ k ∈ ks, k < (p : Int)) (h1 : rows.length + ms.length ≤ 1000) (h2 : ks.length + ms.length ≤ 1000)
    (h : ∀ q ks' hp', At w.x.cps.toList q r → p ≤ q → (∀ k ∈ ks', k < (q : Int)) → ks'.length ≤ ks.length + ms.length → Sc w q (rows ++ mkr ms) ks' hp' → Nx w hp hp' → hp'.length = hp.length → Disp G w q r[0]? r[1]? (rows ++ mkr ms) ks' hp' P) :
    TF G n aTake [.obj w.i] hp P := by
  obtain ⟨Pm, hK⟩ := O.hk
  refine (f_Scanner_take hK).at O.tab 5 hn rfl ?_
  unfold ir_Scanner_take
  refine sq_whl ?_
  refine ⟨TkI w p rows ks r ms hp,
    fun st => w.x.cps.toList.length - plc w st, ⟨p, rows, ks, l, ms, none, none, none, hp, hA, hL, rfl, Nat.le_refl _, h1, hk, S, .refl, rfl, Nat.le_refl _⟩, ?_⟩
  intro st1 hi
  obtain ⟨q1, rows1, ks1, l1, ms1, o1, o2, o3, hp1, hA1, hL1, er1, ek1, el1, hk1, S1, N1, L1, hpq1⟩ := hi
  simp only [vE, vT, vA, onLoc, onStr, onLst, onInt, onTup, onList, onB, Bin, small, goOn, retOf, turnEnd, List.map_cons, List.map_nil, List.append_nil, List.cons_append, List.nil_append, List.replicate, List.getElem?_cons_zero, List.getElem?_cons_succ, List.set_cons_zero, List.set_cons_succ, List.length_cons, List.length_nil, List.length_append, Nat.zero_add, Nat.reduceAdd, Nat.add_zero]
  refine fork_t ?_
  refine sq_exp ?_
  simp only [vE, vT, vA, onLoc, onStr, onLst, onInt, onTup, onList, onB, Bin, small, goOn, retOf, turnEnd, List.map_cons, List.map_nil, List.append_nil, List.cons_append, List.nil_append, List.replicate, List.getElem?_cons_zero, List.getElem?_cons_succ, List.set_cons_zero, List.set_cons_succ, List.length_cons, List.length_nil, List.length_append, Nat.zero_add, Nat.reduceAdd, Nat.add_zero, on_scn S1.s]
  obtain ⟨r2, u, hg, hcase⟩ : ∃ r2 u, Gap l1 r2 u ∧ ((r2 = r ∧ isBad r[0]? r[1]? = false ∧ ms1 = uMs w.x.cps.toList.length u) ∨
      (u = none ∧ ∃ c t ms', r2 = c :: t ∧ isBad (some c) t[0]? = true ∧ Lead w.x.cps.toList.length t r ms' ∧ ms1 = (w.x.cps.toList.length - (t.length + 1), PySem.Str.ofString "bad_character") :: ms')) := by
    cases hL1 with
    | here g hb => exact ⟨_, _, g, .inl ⟨rfl, hb, rfl⟩⟩
    | bad g hb hl => exact ⟨_, _, g, .inr ⟨rfl, _, _, _, rfl, hb, hl, rfl⟩⟩
  refine c_skip O (by omega) S1 hA1 hg hk1 (by omega) (by omega) fun q hp2 hA2 hq2 S2 N2 L2 => ?_
  have hk2 : ∀ k ∈ uKs w.x.cps.toList.length ks1 u, k < (q : Int) := by
    cases u with
    | none => intro k hm; have := hk1 k hm; omega
    | some k0 =>
      intro k hm
      obtain ⟨z1, z2, z3⟩ := hg.end' _ rfl
      have p1 := hA1.pos
      have p2 := hA2.pos
      rcases List.mem_cons.mp hm with rfl | hm
      · rw [z1, List.length_nil] at p2; omega
      · have := hk1 k hm; omega
  have hpl := hA2.pos
  have hpl1 := hA1.pos
  refine sq_set ?_
  simp only [vE, vT, vA, onLoc, onStr, onLst, onInt, onTup, onList, onB, Bin, small, goOn, retOf, turnEnd, List.map_cons, List.map_nil, List.append_nil, List.cons_append, List.nil_append, List.replicate, List.getElem?_cons_zero, List.getElem?_cons_succ, List.set_cons_zero, List.set_cons_succ, List.length_cons, List.length_nil, List.length_append, Nat.zero_add, Nat.reduceAdd, Nat.add_zero, at_plc S2.s]
  refine sq_set ?_
  simp only [vE, vT, vA, onLoc, onStr, onLst, onInt, onTup, onList, onB, Bin, small, goOn, retOf, turnEnd, List.map_cons, List.map_nil, List.append_nil, List.cons_append, List.nil_append, List.replicate, List.getElem?_cons_zero, List.getElem?_cons_succ, List.set_cons_zero, List.set_cons_succ, List.length_cons, List.length_nil, List.length_append, Nat.zero_add, Nat.reduceAdd, Nat.add_zero, on_scn S2.s]
  refine c_char O (by omega) S2 ?_
  have ha := hA2.h0
  have hb := hA2.h1
  generalize hbe : w.x.cps.toList[q + 1]? = b at *
  generalize hae : w.x.cps.toList[q]? = a at *
  have good : isBad a b = false → r2 = r ∧ ms1 = uMs w.x.cps.toList.length u := by
    intro hbad
    rcases hcase with ⟨z1, z2, z3⟩ | ⟨_, c, t, ms', z1, z2, _⟩
    · exact ⟨z1, z3⟩
    · rw [ha, hb, z1] at hbad
      rw [show ((c :: t)[0]?) = some c from rfl, show ((c :: t)[1]?) = t[0]? from rfl, z2] at hbad
      cases hbad
  have disp : isBad a b = false → Disp G w q a b (uRows w.x.cps.toList.length rows1 u) (uKs w.x.cps.toList.length ks1 u) hp2 P := by
    intro hbad
    obtain ⟨z1, z2⟩ := good hbad
    have e : uRows w.x.cps.toList.length rows1 u = rows ++ mkr ms := by rw [uRows_ms, ← z2, er1]
    rw [e, ha, hb, z1]
    refine h q _ hp2 (z1 ▸ hA2) (by omega) hk2 ?_ (e ▸ S2) (N1.trans N2) (by omega)
    subst z2
    cases u with
    | none => simp only [uKs, uMs, List.length_nil] at *; omega
    | some k => simp only [uKs, uMs, List.length_cons, List.length_nil] at *; omega
  refine sq_ife ?_
  simp only [vE, vT, vA, onLoc, onStr, onLst, onInt, onTup, onList, onB, Bin, small, goOn, retOf, turnEnd, List.map_cons, List.map_nil, List.append_nil, List.cons_append, List.nil_append, List.replicate, List.getElem?_cons_zero, List.getElem?_cons_succ, List.set_cons_zero, List.set_cons_succ, List.length_cons, List.length_nil, List.length_append, Nat.zero_add, Nat.reduceAdd, Nat.add_zero, Cmp, s_nil, oc_none]
  refine ⟨fun e => ?_, fun e0 => ?_⟩
  · have e : a = none := by simpa using e
    refine sq_ret ?_
    simp only [vE, vT, vA, onLoc, onStr, onLst, onInt, onTup, onList, onB, Bin, small, goOn, retOf, turnEnd, List.map_cons, List.map_nil, List.append_nil, List.cons_append, List.nil_append, List.replicate, List.getElem?_cons_zero, List.getElem?_cons_succ, List.set_cons_zero, List.set_cons_succ, List.length_cons, List.length_nil, List.length_append, Nat.zero_add, Nat.reduceAdd, Nat.add_zero]
    refine c_token O (by omega) ?_
    exact (disp (by subst e; rfl)).eof e
  refine sq_skip ?_
  simp only [vE, vT, vA, onLoc, onStr, onLst, onInt, onTup, onList, onB, Bin, small, goOn, retOf, turnEnd, List.map_cons, List.map_nil, List.append_nil, List.cons_append, List.nil_append, List.replicate, List.getElem?_cons_zero, List.getElem?_cons_succ, List.set_cons_zero, List.set_cons_succ, List.length_cons, List.length_nil, List.length_append, Nat.zero_add, Nat.reduceAdd, Nat.add_zero]
  refine sq_ife ?_
  simp only [vE, vT, vA, onLoc, onStr, onLst, onInt, onTup, onList, onB, Bin, small, goOn, retOf, turnEnd, List.map_cons, List.map_nil, List.append_nil, List.cons_append, List.nil_append, List.replicate, List.getElem?_cons_zero, List.getElem?_cons_succ, List.set_cons_zero, List.set_cons_succ, List.length_cons, List.length_nil, List.length_append, Nat.zero_add, Nat.reduceAdd, Nat.add_zero]
  refine c_is_letter O (by omega) a ?_
  refine ⟨fun e => ?_, fun e1 => ?_⟩
  · refine sq_ret ?_
    simp only [vE, vT, vA, onLoc, onStr, onLst, onInt, onTup, onList, onB, Bin, small, goOn, retOf, turnEnd, List.map_cons, List.map_nil, List.append_nil, List.cons_append, List.nil_append, List.replicate, List.getElem?_cons_zero, List.getElem?_cons_succ, List.set_cons_zero, List.set_cons_succ, List.length_cons, List.length_nil, List.length_append, Nat.zero_add, Nat.reduceAdd, Nat.add_zero, on_scn S2.s]
    exact (disp (by simp [isBad, e])).wd e
  refine sq_skip ?_
  simp only [vE, vT, vA, onLoc, onStr, onLst, onInt, onTup, onList, onB, Bin, small, goOn, retOf, turnEnd, List.map_cons, List.map_nil, List.append_nil, List.cons_append, List.nil_append, List.replicate, List.getElem?_cons_zero, List.getElem?_cons_succ, List.set_cons_zero, List.set_cons_succ, List.length_cons, List.length_nil, List.length_append, Nat.zero_add, Nat.reduceAdd, Nat.add_zero]
  refine sq_ife ?_
  simp only [vE, vT, vA, onLoc, onStr, onLst, onInt, onTup, onList, onB, Bin, small, goOn, retOf, turnEnd, List.map_cons, List.map_nil, List.append_nil, List.cons_append, List.nil_append, List.replicate, List.getElem?_cons_zero, List.getElem?_cons_succ, List.set_cons_zero, List.set_cons_succ, List.length_cons, List.length_nil, List.length_append, Nat.zero_add, Nat.reduceAdd, Nat.add_zero]
  refine c_is_digit O (by omega) a ?_
  refine ⟨fun e => ?_, fun e2 => ?_⟩
  · refine sq_ret ?_
    simp only [vE, vT, vA, onLoc, onStr, onLst, onInt, onTup, onList, onB, Bin, small, goOn, retOf, turnEnd, List.map_cons, List.map_nil, List.append_nil, List.cons_append, List.nil_append, List.replicate, List.getElem?_cons_zero, List.getElem?_cons_succ, List.set_cons_zero, List.set_cons_succ, List.length_cons, List.length_nil, List.length_append, Nat.zero_add, Nat.reduceAdd, Nat.add_zero, on_scn S2.s]
    exact (disp (by simp [isBad, e])).nu e
  refine sq_skip ?_
  simp only [vE, vT, vA, onLoc, onStr, onLst, onInt, onTup, onList, onB, Bin, small, goOn, retOf, turnEnd, List.map_cons, List.map_nil, List.append_nil, List.cons_append, List.nil_append, List.replicate, List.getElem?_cons_zero, List.getElem?_cons_succ, List.set_cons_zero, List.set_cons_succ, List.length_cons, List.length_nil, List.length_append, Nat.zero_add, Nat.reduceAdd, Nat.add_zero]
  refine sq_ife ?_
  simp only [vE, vT, vA, onLoc, onStr, onLst, onInt, onTup, onList, onB, Bin, small, goOn, retOf, turnEnd, List.map_cons, List.map_nil, List.append_nil, List.cons_append, List.nil_append, List.replicate, List.getElem?_cons_zero, List.getElem?_cons_succ, List.set_cons_zero, List.set_cons_succ, List.length_cons, List.length_nil, List.length_append, Nat.zero_add, Nat.reduceAdd, Nat.add_zero, Cmp, s_quote, oc_one]
  refine ⟨fun e => ?_, fun e3 => ?_⟩
  · refine sq_ret ?_
    simp only [vE, vT, vA, onLoc, onStr, onLst, onInt, onTup, onList, onB, Bin, small, goOn, retOf, turnEnd, List.map_cons, List.map_nil, List.append_nil, List.cons_append, List.nil_append, List.replicate, List.getElem?_cons_zero, List.getElem?_cons_succ, List.set_cons_zero, List.set_cons_succ, List.length_cons, List.length_nil, List.length_append, Nat.zero_add, Nat.reduceAdd, Nat.add_zero, on_scn S2.s]
    exact (disp (by simp [isBad, e])).st (by simpa using e)
  refine sq_skip ?_
  simp only [vE, vT, vA, onLoc, onStr, onLst, onInt, onTup, onList, onB, Bin, small, goOn, retOf, turnEnd, List.map_cons, List.map_nil, List.append_nil, List.cons_append, List.nil_append, List.replicate, List.getElem?_cons_zero, List.getElem?_cons_succ, List.set_cons_zero, List.set_cons_succ, List.length_cons, List.length_nil, List.length_append, Nat.zero_add, Nat.reduceAdd, Nat.add_zero]
  refine sq_set ?_
  simp only [vE, vT, vA, onLoc, onStr, onLst, onInt, onTup, onList, onB, Bin, small, goOn, retOf, turnEnd, List.map_cons, List.map_nil, List.append_nil, List.cons_append, List.nil_append, List.replicate, List.getElem?_cons_zero, List.getElem?_cons_succ, List.set_cons_zero, List.set_cons_succ, List.length_cons, List.length_nil, List.length_append, Nat.zero_add, Nat.reduceAdd, Nat.add_zero, on_scn S2.s]
  refine c_symbol O (by omega) S2 ?_
  rw [hae, hbe]
  refine sq_ife ?_
  simp only [vE, vT, vA, onLoc, onStr, onLst, onInt, onTup, onList, onB, Bin, small, goOn, retOf, turnEnd, List.map_cons, List.map_nil, List.append_nil, List.cons_append, List.nil_append, List.replicate, List.getElem?_cons_zero, List.getElem?_cons_succ, List.set_cons_zero, List.set_cons_succ, List.length_cons, List.length_nil, List.length_append, Nat.zero_add, Nat.reduceAdd, Nat.add_zero, Cmp, bne]
  have hsym := symb_len a b
  refine ⟨fun e => ?_, fun e4 => ?_⟩
  · have e : symb a b ≠ "" := by
      intro z
      rw [z] at e
      exact absurd e (by decide)
    refine sq_setA ?_
    simp only [vE, vT, vA, onLoc, onStr, onLst, onInt, onTup, onList, onB, Bin, small, goOn, retOf, turnEnd, List.map_cons, List.map_nil, List.append_nil, List.cons_append, List.nil_append, List.replicate, List.getElem?_cons_zero, List.getElem?_cons_succ, List.set_cons_zero, List.set_cons_succ, List.length_cons, List.length_nil, List.length_append, Nat.zero_add, Nat.reduceAdd, Nat.add_zero, Len]
    refine ⟨Nat.le_trans hsym (by decide), ?_⟩
    have D := disp (by simp [isBad, e])
    simp only [vE, vT, vA, onLoc, onStr, onLst, onInt, onTup, onList, onB, Bin, small, goOn, retOf, turnEnd, List.map_cons, List.map_nil, List.append_nil, List.cons_append, List.nil_append, List.replicate, List.getElem?_cons_zero, List.getElem?_cons_succ, List.set_cons_zero, List.set_cons_succ, List.length_cons, List.length_nil, List.length_append, Nat.zero_add, Nat.reduceAdd, Nat.add_zero, set_plc O S2.s]
    have S3 := S2.go (q + (symb a b).length)
    rw [show (q : Int) + ((symb a b).length : Int) = ((q + (symb a b).length : Nat) : Int) by omega]
    refine sq_ret ?_
    simp only [vE, vT, vA, onLoc, onStr, onLst, onInt, onTup, onList, onB, Bin, small, goOn, retOf, turnEnd, List.map_cons, List.map_nil, List.append_nil, List.cons_append, List.nil_append, List.replicate, List.getElem?_cons_zero, List.getElem?_cons_succ, List.set_cons_zero, List.set_cons_succ, List.length_cons, List.length_nil, List.length_append, Nat.zero_add, Nat.reduceAdd, Nat.add_zero]
    refine c_token O (by omega) ?_
    exact D.sy e1 e2 (by simpa using e3) e _ S3 (.set (.inl rfl)) (by simp)
  · refine sq_skip ?_
    simp only [vE, vT, vA, onLoc, onStr, onLst, onInt, onTup, onList, onB, Bin, small, goOn, retOf, turnEnd, List.map_cons, List.map_nil, List.append_nil, List.cons_append, List.nil_append, List.replicate, List.getElem?_cons_zero, List.getElem?_cons_succ, List.set_cons_zero, List.set_cons_succ, List.length_cons, List.length_nil, List.length_append, Nat.zero_add, Nat.reduceAdd, Nat.add_zero]
    have e4 : symb a b = "" := (show symb a b = ⟨#[]⟩ by simpa using e4).trans s_nil.symm
    have bad : isBad a b = true := by
      have e0 : a ≠ none := by intro z; rw [z] at e0; exact absurd e0 (by decide)
      have e0' : a.isSome = true := by cases a with | none => exact absurd rfl e0 | some _ => rfl
      simp only [isBad, e0', e1, e2, e3, e4, BEq.rfl, Bool.not_false, Bool.and_self]
    rcases hcase with ⟨z1, z2, _⟩ | ⟨z0, c, t, ms', z1, z2, z3, z4⟩
    · rw [ha, hb, z1, z2] at bad
      cases bad
    · subst z0 z1
      refine sq_exp ?_
      simp only [vE, vT, vA, onLoc, onStr, onLst, onInt, onTup, onList, onB, Bin, small, goOn, retOf, turnEnd, List.map_cons, List.map_nil, List.append_nil, List.cons_append, List.nil_append, List.replicate, List.getElem?_cons_zero, List.getElem?_cons_succ, List.set_cons_zero, List.set_cons_succ, List.length_cons, List.length_nil, List.length_append, Nat.zero_add, Nat.reduceAdd, Nat.add_zero, at_err S2.s, on_erl S2.e]
      simp only [uKs, uRows] at S2 hk2 ⊢
      rw [z4, List.length_cons] at ek1 el1
      refine c_mark O (by omega) S2 ?_ (by omega) (by omega) fun hp3 S3 N3 L3 => ?_
      · rw [List.contains_eq_mem, decide_eq_false_iff_not]
        intro hm
        have := hk2 _ hm
        omega
      · refine sq_setA ?_
        simp only [vE, vT, vA, onLoc, onStr, onLst, onInt, onTup, onList, onB, Bin, small, goOn, retOf, turnEnd, List.map_cons, List.map_nil, List.append_nil, List.cons_append, List.nil_append, List.replicate, List.getElem?_cons_zero, List.getElem?_cons_succ, List.set_cons_zero, List.set_cons_succ, List.length_cons, List.length_nil, List.length_append, Nat.zero_add, Nat.reduceAdd, Nat.add_zero, set_plc O S3.s]
        refine sq_skip ?_
        have S4 := S3.go (q + 1)
        rw [show (q : Int) + 1 = ((q + 1 : Nat) : Int) by omega]
        rw [List.length_cons] at hpl
        refine ⟨⟨q + 1, _, _, t, ms', _, _, _, _, hA2.step, z3, ?_, ?_, ?_, ?_, S4, (N1.trans N2).trans (N3.trans (.set (.inl rfl))), by simp; omega, by omega⟩, ?_⟩
        · rw [← er1, z4]
          have : w.x.cps.toList.length - (t.length + 1) = q := by omega
          simp only [mkr, mk1, List.map_cons, this, List.append_assoc, List.cons_append, List.nil_append]
        · rw [List.length_cons]; omega
        · rw [List.length_append, List.length_cons, List.length_nil]; omega
        · intro k hm
          rcases List.mem_cons.mp hm with rfl | hm
          · omega
          · have := hk2 k hm; omega
        · rw [S1.plc, S4.plc]; omega
end
end Mine
end
section
set_option maxRecDepth 20000
namespace Mine
noncomputable def iv (l : List Int) : List AV := l.map .int
theorem iv_len (l : List Int) : (iv l).length = l.length := by simp [iv]
theorem iv_snoc (l : List Int) (x : Int) : iv l ++ [.int x] = iv (l ++ [x]) := by simp [iv]
theorem fmod_0 (x : Int) {y : Int} (h : 0 < y) : 0 ≤ x.fmod y := Int.fmod_nonneg_of_pos _ h
theorem fmod_1 (x : Int) {y : Int} (h : 0 < y) : x.fmod y < y := Int.fmod_lt_of_pos _ h
theorem no_pylong (x : Int) : Builtin.divisionGoesByPylong x 840 = false := by
  unfold Builtin.divisionGoesByPylong
  have : decide ((if ((840 : Int) == 0) = true then 0 else (840 : Int).natAbs.log2 / 30 + 1) > 300) = false := by decide +kernel
  simp only [this, Bool.false_and]
set_option genInjectivity false in
structure PoolAt (hp : List AO) (i j : Nat) : Prop where
  ex : ∃ (figs : List Int) (k m : Int), hp[i]? = some (.list (iv figs)) ∧ hp[j]? = some (.list [.obj i, .int k, .int m]) ∧ figs.length ≤ 3000 ∧ (∀ f ∈ figs, 0 ≤ f ∧ f < 840) ∧ 0 ≤ k ∧ 0 ≤ m ∧ m < 1009
section
variable {hp : List AO} {i j : Nat} {a b c : AV} {k : AV → Prop}
theorem at_i0 (h : hp[j]? = some (.list [a, b, c])) : Idx hp (.obj j) (.int 0) k = k a := by simp [Idx, seqOf, h]
theorem at_i1 (h : hp[j]? = some (.list [a, b, c])) : Idx hp (.obj j) (.int 1) k = k b := by simp [Idx, seqOf, h]
theorem at_i2 (h : hp[j]? = some (.list [a, b, c])) : Idx hp (.obj j) (.int 2) k = k c := by simp [Idx, seqOf, h]
theorem idx_at {l : List AV} {x : Int} (h : hp[j]? = some (.list l)) : Idx hp (.obj j) (.int x) k = ((0 ≤ x ∧ x < 2 ^ 62) ∧ ∃ v, l[x.toNat]? = some v ∧ k v) := by simp [Idx, seqOf, h]
theorem at_ln {l : List AV} (h : hp[j]? = some (.list l)) : Len hp (.obj j) k = (l.length ≤ sizeLine ∧ k (.int l.length)) := by simp [Len, seqOf, h]
end
inductive PlI (is : List Int) (hp : List AO) (k : Nat) : ASt → Prop
  | mk (figs : List Int) (m : Int) (o3 o4 o5 o6 : Option AV) (g1 : figs.length ≤ 60 * k) (g2 : ∀ f ∈ figs, 0 ≤ f ∧ f < 840) (g3 : 0 ≤ m) (g4 : m < 1009) : PlI is hp k ⟨[some (.lst (iv is)), some (.obj hp.length), some (.int m), o3, o4, o5, o6, none, none, none, none], hp ++ [.list (iv figs)]⟩
section
variable {G : Gl} {n : Nat} {hp : List AO} {P : AV → List AO → Prop}
theorem c_pool (O : Ok G) (hn : 1 ≤ n) {is : List Int} (hl : is.length ≤ 1000)
    (h : ∀ hp', PoolAt hp' hp.length (hp.length + 1) → hp'.length = hp.length + 2 → (∀ q, q < hp.length → hp'[q]? = hp[q]?) → P (.obj (hp.length + 1)) hp') : TF G n aPool [.lst (iv is)] hp P := by
  obtain ⟨Pm, hK⟩ := O.hk
  refine (f_law_pool hK).at O.tab 0 hn rfl ?_
  unfold ir__law_pool
  have fin : ∀ (figs : List Int) (m : Int) (o3 o4 o5 o6 : Option AV), figs.length ≤ 2500 → (∀ f ∈ figs, 0 ≤ f ∧ f < 840) → 0 ≤ m → m < 1009 →
      vS G 0 ((IS.ret (IE.newL (IA.cons (IE.loc 1) (IA.cons (IE.int 0) (IA.cons (IE.loc 2) IA.nil))))).seq IS.skip) ⟨[some (.lst (iv is)), some (.obj hp.length), some (.int m), o3, o4, o5, o6, none, none, none, none], hp ++ [.list (iv figs)]⟩ (fun fl st => P (retOf fl) st.heap) := by
    intro figs m o3 o4 o5 o6 h1 h2 h3 h4
    refine sq_ret ?_
    simp only [vE, vT, vA, onLoc, onStr, onLst, onInt, onTup, onList, onB, Bin, small, goOn, retOf, turnEnd, List.map_cons, List.map_nil, List.append_nil, List.cons_append, List.nil_append, List.replicate, List.getElem?_cons_zero, List.getElem?_cons_succ, List.set_cons_zero, List.set_cons_succ, List.length_cons, List.length_nil, List.length_append, Nat.zero_add, Nat.reduceAdd, Nat.add_zero]
    refine ⟨by decide, ?_⟩
    refine h _ ⟨figs, 0, m, ?_, ?_, by omega, h2, Int.le_refl _, h3, h4⟩ (by simp) (fun q hq => ?_)
    · rw [List.append_assoc]; exact at_len
    · have := at_len (hp := hp ++ [AO.list (iv figs)]) (a := .list [.obj hp.length, .int 0, .int m]) (t := [])
      simpa using this
    · rw [List.append_assoc, List.getElem?_append_left hq]
  refine sq_set ?_
  simp only [vE, vT, vA, onLoc, onStr, onLst, onInt, onTup, onList, onB, Bin, small, goOn, retOf, turnEnd, List.map_cons, List.map_nil, List.append_nil, List.cons_append, List.nil_append, List.replicate, List.getElem?_cons_zero, List.getElem?_cons_succ, List.set_cons_zero, List.set_cons_succ, List.length_cons, List.length_nil, List.length_append, Nat.zero_add, Nat.reduceAdd, Nat.add_zero]
  refine ⟨by decide, ?_⟩
  refine sq_set ?_
  simp only [vE, vT, vA, onLoc, onStr, onLst, onInt, onTup, onList, onB, Bin, small, goOn, retOf, turnEnd, List.map_cons, List.map_nil, List.append_nil, List.cons_append, List.nil_append, List.replicate, List.getElem?_cons_zero, List.getElem?_cons_succ, List.set_cons_zero, List.set_cons_succ, List.length_cons, List.length_nil, List.length_append, Nat.zero_add, Nat.reduceAdd, Nat.add_zero]
  refine sq_forL ?_
  simp only [vE, vT, vA, onLoc, onStr, onLst, onInt, onTup, onList, onB, Bin, small, goOn, retOf, turnEnd, List.map_cons, List.map_nil, List.append_nil, List.cons_append, List.nil_append, List.replicate, List.getElem?_cons_zero, List.getElem?_cons_succ, List.set_cons_zero, List.set_cons_succ, List.length_cons, List.length_nil, List.length_append, Nat.zero_add, Nat.reduceAdd, Nat.add_zero, Upto, seqOf]
  refine ⟨⟨by decide, by rw [iv_len]; exact Nat.le_trans hl (by decide)⟩, ?_⟩
  refine ⟨PlI is hp,
    ⟨[], 5, none, none, none, none, Nat.le_refl _, (fun _ h => nomatch h), by decide, by decide⟩, ?_, ?_⟩
  · intro k a ha st1 hi
    obtain ⟨figs, m, o3, o4, o5, o6, g1, g2, g3, g4⟩ := hi
    have hk40 : k < 40 := by
      have := (List.getElem?_eq_some_iff.mp ha).1
      rw [List.length_take] at this
      exact Nat.lt_of_lt_of_le this (Nat.min_le_left _ _)
    obtain ⟨x, rfl⟩ : ∃ x, a = .int x := by
      have := List.mem_of_mem_take (List.mem_of_getElem? ha)
      obtain ⟨x, _, rfl⟩ := List.mem_map.mp this
      exact ⟨x, rfl⟩
    refine sq_set ?_
    simp only [vE, vT, vA, onLoc, onStr, onLst, onInt, onTup, onList, onB, Bin, small, goOn, retOf, turnEnd, List.map_cons, List.map_nil, List.append_nil, List.cons_append, List.nil_append, List.replicate, List.getElem?_cons_zero, List.getElem?_cons_succ, List.set_cons_zero, List.set_cons_succ, List.length_cons, List.length_nil, List.length_append, Nat.zero_add, Nat.reduceAdd, Nat.add_zero, ToInt]
    refine sq_set ?_
    simp only [vE, vT, vA, onLoc, onStr, onLst, onInt, onTup, onList, onB, Bin, small, goOn, retOf, turnEnd, List.map_cons, List.map_nil, List.append_nil, List.cons_append, List.nil_append, List.replicate, List.getElem?_cons_zero, List.getElem?_cons_succ, List.set_cons_zero, List.set_cons_succ, List.length_cons, List.length_nil, List.length_append, Nat.zero_add, Nat.reduceAdd, Nat.add_zero]
    refine ⟨IntMulOk.of_right (by decide), by decide, ?_⟩
    refine sq_set ?_
    simp only [vE, vT, vA, onLoc, onStr, onLst, onInt, onTup, onList, onB, Bin, small, goOn, retOf, turnEnd, List.map_cons, List.map_nil, List.append_nil, List.cons_append, List.nil_append, List.replicate, List.getElem?_cons_zero, List.getElem?_cons_succ, List.set_cons_zero, List.set_cons_succ, List.length_cons, List.length_nil, List.length_append, Nat.zero_add, Nat.reduceAdd, Nat.add_zero, Abs]
    refine sq_forR ?_
    simp only [vE, vT, vA, onLoc, onStr, onLst, onInt, onTup, onList, onB, Bin, small, goOn, retOf, turnEnd, List.map_cons, List.map_nil, List.append_nil, List.cons_append, List.nil_append, List.replicate, List.getElem?_cons_zero, List.getElem?_cons_succ, List.set_cons_zero, List.set_cons_succ, List.length_cons, List.length_nil, List.length_append, Nat.zero_add, Nat.reduceAdd, Nat.add_zero]
    refine ⟨by decide, ?_⟩
    have g3' := fmod_0 (m * 31 + x) (y := 1009) (by decide)
    have g4' := fmod_1 (m * 31 + x) (y := 1009) (by decide)
    generalize Int.fmod (m * 31 + x) 1009 = m' at *
    have fin2 : ∀ (figs' : List Int) (o5 o6 : Option AV), figs'.length ≤ 60 * (k + 1) → (∀ f ∈ figs', 0 ≤ f ∧ f < 840) →
        vS G 0 ((IS.ife (IT.cmp CmpOp.Gt (IE.loc 1).len (IE.int 400)) (IS.brk.seq IS.skip) IS.skip).seq IS.skip) ⟨[some (.lst (iv is)), some (.obj hp.length), some (.int m'), some (.int x), some (.int x), o5, o6, none, none, none, none], hp ++ [.list (iv figs')]⟩
          (turnEnd (goOn (fun st1 => vS G 0 ((IS.ret (IE.newL (IA.cons (IE.loc 1) (IA.cons (IE.int 0) (IA.cons (IE.loc 2) IA.nil))))).seq IS.skip) st1 (fun fl st => P (retOf fl) st.heap)) (fun fl st => P (retOf fl) st.heap)) (PlI is hp (k + 1))) := by
      intro figs' o5 o6 k1 k2
      refine sq_ife ?_
      simp only [vE, vT, vA, onLoc, onStr, onLst, onInt, onTup, onList, onB, Bin, small, goOn, retOf, turnEnd, List.map_cons, List.map_nil, List.append_nil, List.cons_append, List.nil_append, List.replicate, List.getElem?_cons_zero, List.getElem?_cons_succ, List.set_cons_zero, List.set_cons_succ, List.length_cons, List.length_nil, List.length_append, Nat.zero_add, Nat.reduceAdd, Nat.add_zero, at_ln at_len, iv_len, Cmp]
      refine ⟨by have : sizeLine = 16777216 := sizeLine_eq; omega, fun _ => ?_, fun _ => ?_⟩
      · refine sq_brk ?_
        simp only [vE, vT, vA, onLoc, onStr, onLst, onInt, onTup, onList, onB, Bin, small, goOn, retOf, turnEnd, List.map_cons, List.map_nil, List.append_nil, List.cons_append, List.nil_append, List.replicate, List.getElem?_cons_zero, List.getElem?_cons_succ, List.set_cons_zero, List.set_cons_succ, List.length_cons, List.length_nil, List.length_append, Nat.zero_add, Nat.reduceAdd, Nat.add_zero]
        exact fin figs' m' _ _ _ _ (by omega) k2 g3' g4'
      · refine sq_skip ?_
        simp only [vE, vT, vA, onLoc, onStr, onLst, onInt, onTup, onList, onB, Bin, small, goOn, retOf, turnEnd, List.map_cons, List.map_nil, List.append_nil, List.cons_append, List.nil_append, List.replicate, List.getElem?_cons_zero, List.getElem?_cons_succ, List.set_cons_zero, List.set_cons_succ, List.length_cons, List.length_nil, List.length_append, Nat.zero_add, Nat.reduceAdd, Nat.add_zero]
        refine sq_skip ?_
        exact ⟨figs', m', _, _, _, _, k1, k2, g3', g4'⟩
    refine ⟨fun k' st => ∃ (figs' : List Int) (z : Int) (o6 : Option AV), figs'.length ≤ 60 * k + k' ∧ (∀ f ∈ figs', 0 ≤ f ∧ f < 840) ∧
        st = ⟨[some (.lst (iv is)), some (.obj hp.length), some (.int m'), some (.int x), some (.int x), some (.int z), o6, none, none, none, none], hp ++ [.list (iv figs')]⟩,
      ⟨figs, _, o6, by omega, g2, rfl⟩, ?_, ?_⟩
    · intro k' a' ha' st2 hi2
      obtain ⟨figs', z, o6', k1, k2, rfl⟩ := hi2
      have hk60 : k' < 60 := by
        have := (List.getElem?_eq_some_iff.mp ha').1
        simpa [upItems] using this
      have hsz : sizeLine = 16777216 := sizeLine_eq
      refine sq_exp ?_
      simp only [vE, vT, vA, onLoc, onStr, onLst, onInt, onTup, onList, onB, Bin, small, goOn, retOf, turnEnd, List.map_cons, List.map_nil, List.append_nil, List.cons_append, List.nil_append, List.replicate, List.getElem?_cons_zero, List.getElem?_cons_succ, List.set_cons_zero, List.set_cons_succ, List.length_cons, List.length_nil, List.length_append, Nat.zero_add, Nat.reduceAdd, Nat.add_zero, at_len, App]
      refine ⟨by decide, by rw [iv_len]; omega, ?_⟩
      rw [set_len, iv_snoc]
      refine sq_aug ?_
      simp only [vE, vT, vA, onLoc, onStr, onLst, onInt, onTup, onList, onB, Bin, small, goOn, retOf, turnEnd, List.map_cons, List.map_nil, List.append_nil, List.cons_append, List.nil_append, List.replicate, List.getElem?_cons_zero, List.getElem?_cons_succ, List.set_cons_zero, List.set_cons_succ, List.length_cons, List.length_nil, List.length_append, Nat.zero_add, Nat.reduceAdd, Nat.add_zero, Aug]
      refine ⟨⟨by decide, no_pylong _⟩, ?_⟩
      have k2' : ∀ f ∈ figs' ++ [z.fmod 840], 0 ≤ f ∧ f < 840 := by
        intro f hf
        rcases List.mem_append.mp hf with hf | hf
        · exact k2 f hf
        · cases List.mem_singleton.mp hf
          exact ⟨fmod_0 _ (by decide), fmod_1 _ (by decide)⟩
      refine sq_ife ?_
      simp only [vE, vT, vA, onLoc, onStr, onLst, onInt, onTup, onList, onB, Bin, small, goOn, retOf, turnEnd, List.map_cons, List.map_nil, List.append_nil, List.cons_append, List.nil_append, List.replicate, List.getElem?_cons_zero, List.getElem?_cons_succ, List.set_cons_zero, List.set_cons_succ, List.length_cons, List.length_nil, List.length_append, Nat.zero_add, Nat.reduceAdd, Nat.add_zero, Cmp]
      refine ⟨fun _ => ?_, fun _ => ?_⟩
      · refine sq_brk ?_
        simp only [vE, vT, vA, onLoc, onStr, onLst, onInt, onTup, onList, onB, Bin, small, goOn, retOf, turnEnd, List.map_cons, List.map_nil, List.append_nil, List.cons_append, List.nil_append, List.replicate, List.getElem?_cons_zero, List.getElem?_cons_succ, List.set_cons_zero, List.set_cons_succ, List.length_cons, List.length_nil, List.length_append, Nat.zero_add, Nat.reduceAdd, Nat.add_zero]
        exact fin2 _ _ _ (by simp only [List.length_append, List.length_cons, List.length_nil]; omega) k2'
      · refine sq_skip ?_
        simp only [vE, vT, vA, onLoc, onStr, onLst, onInt, onTup, onList, onB, Bin, small, goOn, retOf, turnEnd, List.map_cons, List.map_nil, List.append_nil, List.cons_append, List.nil_append, List.replicate, List.getElem?_cons_zero, List.getElem?_cons_succ, List.set_cons_zero, List.set_cons_succ, List.length_cons, List.length_nil, List.length_append, Nat.zero_add, Nat.reduceAdd, Nat.add_zero]
        refine sq_skip ?_
        exact ⟨_, _, _, by simp only [List.length_append, List.length_cons, List.length_nil]; omega, k2', rfl⟩
    · intro st2 hi2
      obtain ⟨figs', z, o6', k1, k2, rfl⟩ := hi2
      simp only [vE, vT, vA, onLoc, onStr, onLst, onInt, onTup, onList, onB, Bin, small, goOn, retOf, turnEnd, List.map_cons, List.map_nil, List.append_nil, List.cons_append, List.nil_append, List.replicate, List.getElem?_cons_zero, List.getElem?_cons_succ, List.set_cons_zero, List.set_cons_succ, List.length_cons, List.length_nil, List.length_append, Nat.zero_add, Nat.reduceAdd, Nat.add_zero]
      refine fin2 _ _ _ ?_ k2
      simp only [upItems, List.length_map, List.length_range] at k1
      have : (60 : Int).toNat = 60 := rfl
      omega
  · intro st1 hi
    obtain ⟨figs, m, o3, o4, o5, o6, g1, g2, g3, g4⟩ := hi
    simp only [vE, vT, vA, onLoc, onStr, onLst, onInt, onTup, onList, onB, Bin, small, goOn, retOf, turnEnd, List.map_cons, List.map_nil, List.append_nil, List.cons_append, List.nil_append, List.replicate, List.getElem?_cons_zero, List.getElem?_cons_succ, List.set_cons_zero, List.set_cons_succ, List.length_cons, List.length_nil, List.length_append, Nat.zero_add, Nat.reduceAdd, Nat.add_zero]
    refine fin figs m _ _ _ _ ?_ g2 g3 g4
    have : (List.take (40 : Int).toNat (iv is)).length ≤ 40 := by rw [List.length_take]; exact Nat.min_le_left _ _
    omega
theorem c_pick (O : Ok G) (hn : 1 ≤ n) {i j : Nat} {b : Int} (hb : 0 < b) (hP : PoolAt hp i j)
    (h : ∀ v hp', 0 ≤ v → v < b → PoolAt hp' i j → hp'.length = hp.length → (∀ q, q ≠ j → hp'[q]? = hp[q]?) → P (.int v) hp') : TF G n aPick [.obj j, .int b] hp P := by
  obtain ⟨Pm, hK⟩ := O.hk
  refine (f_law_pick hK).at O.tab 0 hn rfl ?_
  unfold ir__law_pick
  have hP' := hP
  obtain ⟨figs, k, m, e1, e2, e3, e4, e5, e6, e7⟩ := hP
  have hsz : figs.length ≤ sizeLine := Nat.le_trans e3 (by decide)
  have hij : i ≠ j := by
    intro z
    subst z
    rw [e1] at e2
    have := congrArg List.length (AO.list.inj (Option.some.inj e2))
    match figs, e2 with
    | [], e2 => cases e2
    | x :: _, e2 => cases e2
  have fin : ∀ (v : Int) (hp' : List AO), PoolAt hp' i j → hp'.length = hp.length → (∀ q, q ≠ j → hp'[q]? = hp[q]?) →
      vS G 0 ((IS.ret (IE.bin Operator.Mod (IE.loc 2) (IE.loc 1))).seq IS.skip) ⟨[some (.obj j), some (.int b), some (.int v), none], hp'⟩ (fun fl st => P (retOf fl) st.heap) := by
    intro v hp' h1 h2 h3
    refine sq_ret ?_
    simp only [vE, vT, vA, onLoc, onStr, onLst, onInt, onTup, onList, onB, Bin, small, goOn, retOf, turnEnd, List.map_cons, List.map_nil, List.append_nil, List.cons_append, List.nil_append, List.replicate, List.getElem?_cons_zero, List.getElem?_cons_succ, List.set_cons_zero, List.set_cons_succ, List.length_cons, List.length_nil, List.length_append, Nat.zero_add, Nat.reduceAdd, Nat.add_zero]
    exact ⟨by omega, h _ _ (fmod_0 _ hb) (fmod_1 _ hb) h1 h2 h3⟩
  have set' : ∀ k' m' : Int, 0 ≤ k' → 0 ≤ m' → m' < 1009 → PoolAt (hp.set j (.list [.obj i, .int k', .int m'])) i j := fun k' m' h1 h2 h3 => ⟨figs, k', m', set_other e1 (Ne.symm hij), set_same e2, e3, e4, h1, h2, h3⟩
  refine sq_ife ?_
  simp only [vE, vT, vA, onLoc, onStr, onLst, onInt, onTup, onList, onB, Bin, small, goOn, retOf, turnEnd, List.map_cons, List.map_nil, List.append_nil, List.cons_append, List.nil_append, List.replicate, List.getElem?_cons_zero, List.getElem?_cons_succ, List.set_cons_zero, List.set_cons_succ, List.length_cons, List.length_nil, List.length_append, Nat.zero_add, Nat.reduceAdd, Nat.add_zero, at_i0 e2, at_i1 e2, at_ln e1, iv_len, Cmp]
  refine ⟨hsz, fun hlt => ?_, fun hge => ?_⟩
  · have hlt := of_decide_eq_true hlt
    obtain ⟨f, hf⟩ : ∃ f, figs[k.toNat]? = some f := ⟨figs[k.toNat]'(by omega), List.getElem?_eq_getElem (by omega)⟩
    refine sq_set ?_
    simp only [vE, vT, vA, onLoc, onStr, onLst, onInt, onTup, onList, onB, Bin, small, goOn, retOf, turnEnd, List.map_cons, List.map_nil, List.append_nil, List.cons_append, List.nil_append, List.replicate, List.getElem?_cons_zero, List.getElem?_cons_succ, List.set_cons_zero, List.set_cons_succ, List.length_cons, List.length_nil, List.length_append, Nat.zero_add, Nat.reduceAdd, Nat.add_zero, at_i0 e2, at_i1 e2, idx_at e1]
    refine ⟨⟨e5, ?_⟩, .int f, by simp [iv, hf], ?_⟩
    · have : (3000 : Int) < 2 ^ 62 := by decide
      omega
    refine sq_augI ?_
    simp only [vE, vT, vA, onLoc, onStr, onLst, onInt, onTup, onList, onB, Bin, small, goOn, retOf, turnEnd, List.map_cons, List.map_nil, List.append_nil, List.cons_append, List.nil_append, List.replicate, List.getElem?_cons_zero, List.getElem?_cons_succ, List.set_cons_zero, List.set_cons_succ, List.length_cons, List.length_nil, List.length_append, Nat.zero_add, Nat.reduceAdd, Nat.add_zero, GetIdx, seqOf, e2, Aug]
    refine ⟨⟨by decide, by decide⟩, .int k, rfl, ?_⟩
    simp only [vE, vT, vA, onLoc, onStr, onLst, onInt, onTup, onList, onB, Bin, small, goOn, retOf, turnEnd, List.map_cons, List.map_nil, List.append_nil, List.cons_append, List.nil_append, List.replicate, List.getElem?_cons_zero, List.getElem?_cons_succ, List.set_cons_zero, List.set_cons_succ, List.length_cons, List.length_nil, List.length_append, Nat.zero_add, Nat.reduceAdd, Nat.add_zero, SetIdx, seqOf, e2]
    refine ⟨by decide, ?_⟩
    refine sq_skip ?_
    simp only [vE, vT, vA, onLoc, onStr, onLst, onInt, onTup, onList, onB, Bin, small, goOn, retOf, turnEnd, List.map_cons, List.map_nil, List.append_nil, List.cons_append, List.nil_append, List.replicate, List.getElem?_cons_zero, List.getElem?_cons_succ, List.set_cons_zero, List.set_cons_succ, List.length_cons, List.length_nil, List.length_append, Nat.zero_add, Nat.reduceAdd, Nat.add_zero]
    exact fin f _ (set' (k + 1) m (by omega) e6 e7) (by simp) (fun q hq => by
      rw [show (List.set [AV.obj i, AV.int k, AV.int m] (1 : Int).toNat (AV.int (k + 1))) = [AV.obj i, AV.int (k + 1), AV.int m] from rfl]
      rw [List.getElem?_set_ne (Ne.symm hq)])
  · refine sq_ife ?_
    simp only [vE, vT, vA, onLoc, onStr, onLst, onInt, onTup, onList, onB, Bin, small, goOn, retOf, turnEnd, List.map_cons, List.map_nil, List.append_nil, List.cons_append, List.nil_append, List.replicate, List.getElem?_cons_zero, List.getElem?_cons_succ, List.set_cons_zero, List.set_cons_succ, List.length_cons, List.length_nil, List.length_append, Nat.zero_add, Nat.reduceAdd, Nat.add_zero, at_i0 e2, at_ln e1, iv_len, Cmp]
    refine ⟨hsz, fun _ => ?_, fun _ => ?_⟩
    · refine sq_set ?_
      simp only [vE, vT, vA, onLoc, onStr, onLst, onInt, onTup, onList, onB, Bin, small, goOn, retOf, turnEnd, List.map_cons, List.map_nil, List.append_nil, List.cons_append, List.nil_append, List.replicate, List.getElem?_cons_zero, List.getElem?_cons_succ, List.set_cons_zero, List.set_cons_succ, List.length_cons, List.length_nil, List.length_append, Nat.zero_add, Nat.reduceAdd, Nat.add_zero]
      refine sq_skip ?_
      simp only [vE, vT, vA, onLoc, onStr, onLst, onInt, onTup, onList, onB, Bin, small, goOn, retOf, turnEnd, List.map_cons, List.map_nil, List.append_nil, List.cons_append, List.nil_append, List.replicate, List.getElem?_cons_zero, List.getElem?_cons_succ, List.set_cons_zero, List.set_cons_succ, List.length_cons, List.length_nil, List.length_append, Nat.zero_add, Nat.reduceAdd, Nat.add_zero]
      refine sq_skip ?_
      exact fin 0 hp hP' rfl (fun _ _ => rfl)
    · refine sq_setI ?_
      simp only [vE, vT, vA, onLoc, onStr, onLst, onInt, onTup, onList, onB, Bin, small, goOn, retOf, turnEnd, List.map_cons, List.map_nil, List.append_nil, List.cons_append, List.nil_append, List.replicate, List.getElem?_cons_zero, List.getElem?_cons_succ, List.set_cons_zero, List.set_cons_succ, List.length_cons, List.length_nil, List.length_append, Nat.zero_add, Nat.reduceAdd, Nat.add_zero, at_i2 e2, SetItem, SetIdx, e2]
      refine ⟨IntMulOk.of_right (by decide), by decide, by decide, ?_⟩
      have g3' := fmod_0 (m * 37 + 11) (y := 1009) (by decide)
      have g4' := fmod_1 (m * 37 + 11) (y := 1009) (by decide)
      generalize Int.fmod (m * 37 + 11) 1009 = m' at *
      refine sq_set ?_
      have e2' : (hp.set j (AO.list (List.set [AV.obj i, AV.int k, AV.int m] (2 : Int).toNat (AV.int m'))))[j]? = some (.list [.obj i, .int k, .int m']) := set_same e2
      simp only [vE, vT, vA, onLoc, onStr, onLst, onInt, onTup, onList, onB, Bin, small, goOn, retOf, turnEnd, List.map_cons, List.map_nil, List.append_nil, List.cons_append, List.nil_append, List.replicate, List.getElem?_cons_zero, List.getElem?_cons_succ, List.set_cons_zero, List.set_cons_succ, List.length_cons, List.length_nil, List.length_append, Nat.zero_add, Nat.reduceAdd, Nat.add_zero, at_i2 e2']
      refine sq_skip ?_
      simp only [vE, vT, vA, onLoc, onStr, onLst, onInt, onTup, onList, onB, Bin, small, goOn, retOf, turnEnd, List.map_cons, List.map_nil, List.append_nil, List.cons_append, List.nil_append, List.replicate, List.getElem?_cons_zero, List.getElem?_cons_succ, List.set_cons_zero, List.set_cons_succ, List.length_cons, List.length_nil, List.length_append, Nat.zero_add, Nat.reduceAdd, Nat.add_zero]
      refine sq_skip ?_
      exact fin m' _ (set' k m' e5 g3' g4') (by simp) (fun q hq => by
        rw [List.getElem?_set_ne (Ne.symm hq)])
end
end Mine
end
section
set_option maxRecDepth 20000
namespace Mine
theorem s_E : PySem.Str.ofString "E" = ⟨#[69]⟩ := by decide
theorem s_plus : PySem.Str.ofString "+" = ⟨#[43]⟩ := by decide
theorem s_minus : PySem.Str.ofString "-" = ⟨#[45]⟩ := by decide
theorem s_nl : PySem.Str.ofString "\n" = ⟨#[10]⟩ := by decide
noncomputable def expLen (r : List Nat) (s : Nat) : Nat := if isDig r[1 + s]? = true then 1 + s + ((r.drop (1 + s)).takeWhile dg).length else 0
noncomputable def realLen (a : List Nat) : Nat :=
  let r := a.dropWhile dg
  (a.takeWhile dg).length + (if r[0]? = some 69 then expLen r (if r[1]? = some 43 ∨ r[1]? = some 45 then 1 else 0) else 0)
inductive StrR (N : Nat) : List Nat → List Nat → List Nat → List Nat → Bool → Prop
  | close {t : List Nat} : StrR N (34 :: t) [] t [] true
  | eof : StrR N [] [] [] [] false
  | nl {t : List Nat} : StrR N (10 :: t) [] (10 :: t) [] false
  | good {c : Nat} {t a r bs : List Nat} {cl : Bool} (h1 : c ≠ 34) (h2 : c ≠ 10) (h3 : c ≤ 255) (h : StrR N t a r bs cl) : StrR N (c :: t) (c :: a) r bs cl
  | bad {c : Nat} {t a r bs : List Nat} {cl : Bool} (h1 : c ≠ 34) (h2 : c ≠ 10) (h3 : 255 < c) (h : StrR N t a r bs cl) : StrR N (c :: t) a r ((N - (t.length + 1)) :: bs) cl
noncomputable def chs (l : List Nat) : List AV := l.map fun c => .str ⟨#[c]⟩
theorem strs_chs : ∀ l : List Nat, strsOf (chs l) = some (l.map fun c => (⟨#[c]⟩ : Str))
  | [] => rfl
  | c :: l => by
    show (strsOf (chs l)).map _ = _
    rw [strs_chs l]; rfl
theorem fold_chs : ∀ (l : List Nat) (a : Array Nat), (l.map fun c => (⟨#[c]⟩ : Str)).foldl (fun acc p => acc ++ p.cps) a = a ++ l.toArray
  | [], a => by simp
  | c :: l, a => by
    show (l.map fun c => (⟨#[c]⟩ : Str)).foldl (fun acc p => acc ++ p.cps) (a ++ #[c]) = _
    rw [fold_chs l]
    simp
theorem sum_chs : ∀ l : List Nat, ((l.map fun c => (⟨#[c]⟩ : Str)).map (·.length)).sum = l.length
  | [] => rfl
  | c :: l => by
    simp only [List.map_cons, List.sum_cons]
    rw [sum_chs l, List.length_cons]
    show 1 + _ = _
    omega
section
variable {G : Gl} {n : Nat} {hp : List AO} {w : Wd} {p : Nat} {rows : List AV} {ks : List Int} {P : AV → List AO → Prop}
theorem c_chark (O : Ok G) (hn : 1 ≤ n) (S : Sc w p rows ks hp) (k : Nat) (h : P (.str (oc w.x.cps.toList[p + k]?)) hp) : TF G n aChar [.obj w.i, .int (k : Int)] hp P := by
  obtain ⟨Pm, hk⟩ := O.hk
  refine (f_char1 hk).at O.tab 0 hn rfl ?_
  unfold ir_Scanner_char
  refine sq_ret ?_
  simp only [vE, vT, vA, onLoc, onStr, onLst, onInt, onTup, onList, onB, Bin, small, goOn, retOf, turnEnd, List.map_cons, List.map_nil, List.append_nil, List.cons_append, List.nil_append, List.replicate, List.getElem?_cons_zero, List.getElem?_cons_succ, List.set_cons_zero, List.set_cons_succ, List.length_cons, List.length_nil, List.length_append, Nat.zero_add, Nat.reduceAdd, Nat.add_zero, at_src S.s, at_plc S.s, Slc]
  refine ⟨Nat.le_trans S.sz (by decide), ?_⟩
  rw [show (p : Int) + (k : Int) = ((p + k : Nat) : Int) by omega, slice_one]
  exact h
theorem c_skip_digits (O : Ok G) (hn : 2 ≤ n) (S : Sc w p rows ks hp) (h : ∀ hp', Sc w (p + (run w.x dg p).length) rows ks hp' → Nx w hp hp' → hp'.length = hp.length → P .none hp') : TF G n aSkipDigits [.obj w.i] hp P := by
  obtain ⟨Pm, hK⟩ := O.hk
  refine (f_Scanner_skip_digits hK).at O.tab 1 hn rfl ?_
  unfold ir_Scanner_skip_digits
  refine sq_whl ?_
  refine ⟨fun st => ∃ m hp', m ≤ (run w.x dg p).length ∧ Sc w (p + m) rows ks hp' ∧ Nx w hp hp' ∧ hp'.length = hp.length ∧ st = ⟨[some (.obj w.i), none], hp'⟩, fun st => p + (run w.x dg p).length + 1 - plc w st, ⟨0, hp, Nat.zero_le _, S, .refl, rfl, rfl⟩, ?_⟩
  intro st1 hi
  obtain ⟨m, hp1, hm, S1, N1, L1, rfl⟩ := hi
  simp only [vE, vT, vA, onLoc, onStr, onLst, onInt, onTup, onList, onB, Bin, small, goOn, retOf, turnEnd, List.map_cons, List.map_nil, List.append_nil, List.cons_append, List.nil_append, List.replicate, List.getElem?_cons_zero, List.getElem?_cons_succ, List.set_cons_zero, List.set_cons_succ, List.length_cons, List.length_nil, List.length_append, Nat.zero_add, Nat.reduceAdd, Nat.add_zero, on_scn S1.s]
  refine c_char O (by omega) S1 ?_
  try simp only [vE, vT, vA, onLoc, onStr, onLst, onInt, onTup, onList, onB, Bin, small, goOn, retOf, turnEnd, List.map_cons, List.map_nil, List.append_nil, List.cons_append, List.nil_append, List.replicate, List.getElem?_cons_zero, List.getElem?_cons_succ, List.set_cons_zero, List.set_cons_succ, List.length_cons, List.length_nil, List.length_append, Nat.zero_add, Nat.reduceAdd, Nat.add_zero]
  refine c_is_digit O (by omega) _ ⟨fun hx => ?_, fun hx => ?_⟩
  · have hlt : m < (run w.x dg p).length := by
      rcases Nat.lt_or_eq_of_le hm with h | rfl
      · exact h
      · exfalso
        cases hc : w.x.cps.toList[p + (run w.x dg p).length]? with
        | none => rw [hc] at hx; cases hx
        | some c =>
          rw [hc] at hx
          have := tw_eq (g := dg) (c := c) (l := w.x.cps.toList.drop p) (by rw [List.getElem?_drop]; exact hc)
          rw [dg, hx] at this
          cases this
    refine sq_setA ?_
    simp only [vE, vT, vA, onLoc, onStr, onLst, onInt, onTup, onList, onB, Bin, small, goOn, retOf, turnEnd, List.map_cons, List.map_nil, List.append_nil, List.cons_append, List.nil_append, List.replicate, List.getElem?_cons_zero, List.getElem?_cons_succ, List.set_cons_zero, List.set_cons_succ, List.length_cons, List.length_nil, List.length_append, Nat.zero_add, Nat.reduceAdd, Nat.add_zero, at_plc S1.s, set_plc O S1.s]
    have S2 := S1.go (p + (m + 1))
    rw [show ((p + m : Nat) : Int) + 1 = ((p + (m + 1) : Nat) : Int) by omega]
    refine sq_skip ⟨⟨m + 1, _, hlt, S2, N1.trans (.set (.inl rfl)), by simp [L1], rfl⟩, ?_⟩
    rw [S1.plc, S2.plc]
    omega
  · have he : m = (run w.x dg p).length := by
      rcases Nat.lt_or_eq_of_le hm with h | h
      · exfalso
        obtain ⟨c, hc, hg⟩ := tw_lt h
        rw [List.getElem?_drop] at hc
        rw [hc] at hx
        rw [dg, hx] at hg
        cases hg
      · exact h
    subst he
    refine sq_skip ?_
    exact h hp1 S1 N1 L1
theorem c_real (O : Ok G) (hn : 3 ≤ n) (S : Sc w p rows ks hp) {b : Nat} (hk : ks.contains (b : Int) = false) (hr : rows.length ≤ 1000) (hl : ks.length ≤ 1000)
    (h : ∀ hp', Sc w (p + 1 + realLen (w.x.cps.toList.drop (p + 1))) (rows ++ [mk1 b "reals_left_out"]) ((b : Int) :: ks) hp' → Nx w hp hp' → P (.obj hp'.length) (hp' ++ [tok (.str "int") (.int 0) b])) : TF G n aReal [.obj w.i, .int b] hp P := by
  obtain ⟨Pm, hK⟩ := O.hk
  refine (f_Scanner_real hK).at O.tab 2 hn rfl ?_
  unfold ir_Scanner_real
  refine sq_exp ?_
  simp only [vE, vT, vA, onLoc, onStr, onLst, onInt, onTup, onList, onB, Bin, small, goOn, retOf, turnEnd, List.map_cons, List.map_nil, List.append_nil, List.cons_append, List.nil_append, List.replicate, List.getElem?_cons_zero, List.getElem?_cons_succ, List.set_cons_zero, List.set_cons_succ, List.length_cons, List.length_nil, List.length_append, Nat.zero_add, Nat.reduceAdd, Nat.add_zero, at_err S.s, on_erl S.e]
  refine c_mark O (by omega) S hk hr hl fun hp1 S1 N1 L1 => ?_
  refine sq_setA ?_
  simp only [vE, vT, vA, onLoc, onStr, onLst, onInt, onTup, onList, onB, Bin, small, goOn, retOf, turnEnd, List.map_cons, List.map_nil, List.append_nil, List.cons_append, List.nil_append, List.replicate, List.getElem?_cons_zero, List.getElem?_cons_succ, List.set_cons_zero, List.set_cons_succ, List.length_cons, List.length_nil, List.length_append, Nat.zero_add, Nat.reduceAdd, Nat.add_zero, at_plc S1.s, set_plc O S1.s]
  have S2 := S1.go (p + 1)
  rw [show (p : Int) + 1 = ((p + 1 : Nat) : Int) by omega]
  have N2 : Nx w hp1 (hp1.set w.i (scn w.x w.e ((p + 1 : Nat) : Int))) := .set (.inl rfl)
  generalize hp1.set w.i (scn w.x w.e ((p + 1 : Nat) : Int)) = hp2 at *
  refine sq_exp ?_
  simp only [vE, vT, vA, onLoc, onStr, onLst, onInt, onTup, onList, onB, Bin, small, goOn, retOf, turnEnd, List.map_cons, List.map_nil, List.append_nil, List.cons_append, List.nil_append, List.replicate, List.getElem?_cons_zero, List.getElem?_cons_succ, List.set_cons_zero, List.set_cons_succ, List.length_cons, List.length_nil, List.length_append, Nat.zero_add, Nat.reduceAdd, Nat.add_zero, on_scn S2.s]
  refine c_skip_digits O (by omega) S2 fun hp3 S3 N3 L3 => ?_
  generalize hm : (run w.x dg (p + 1)).length = m at *
  have hnx : ∀ i, w.x.cps.toList[p + 1 + m + i]? = ((w.x.cps.toList.drop (p + 1)).dropWhile dg)[i]? := by
    intro i
    have e : ∀ l : List Nat, l[(l.takeWhile dg).length + i]? = (l.dropWhile dg)[i]? := by
      intro l
      have e : l[(l.takeWhile dg).length + i]? = (l.takeWhile dg ++ l.dropWhile dg)[(l.takeWhile dg).length + i]? := by rw [List.takeWhile_append_dropWhile]
      rw [e, List.getElem?_append_right (Nat.le_add_right _ _), Nat.add_sub_cancel_left]
    have := e (w.x.cps.toList.drop (p + 1))
    rw [List.getElem?_drop] at this
    rw [← this, ← hm, Nat.add_assoc]
  have hdr : ∀ i, w.x.cps.toList.drop (p + 1 + m + i) = ((w.x.cps.toList.drop (p + 1)).dropWhile dg).drop i := by
    intro i
    rw [← List.drop_drop, ← List.drop_drop]
    congr 1
    have : ∀ l : List Nat, l.drop (l.takeWhile dg).length = l.dropWhile dg := by
      intro l
      induction l with
      | nil => rfl
      | cons a l ih =>
        rw [List.takeWhile_cons, List.dropWhile_cons]
        split <;> simp [*]
    rw [← hm]
    exact this _
  have hlen : realLen (w.x.cps.toList.drop (p + 1)) = m + (if ((w.x.cps.toList.drop (p + 1)).dropWhile dg)[0]? = some 69 then expLen ((w.x.cps.toList.drop (p + 1)).dropWhile dg) (if ((w.x.cps.toList.drop (p + 1)).dropWhile dg)[1]? = some 43 ∨ ((w.x.cps.toList.drop (p + 1)).dropWhile dg)[1]? = some 45 then 1 else 0) else 0) := by
    unfold realLen
    rw [← hm]
  rw [hlen] at h
  generalize (w.x.cps.toList.drop (p + 1)).dropWhile dg = r at *
  have fin : ∀ (k : Nat) (hp4 : List AO) (o2 : Option AV), k = (if r[0]? = some 69 then expLen r (if r[1]? = some 43 ∨ r[1]? = some 45 then 1 else 0) else 0) → Sc w (p + 1 + m + k) (rows ++ [mk1 b "reals_left_out"]) ((b : Int) :: ks) hp4 → Nx w hp3 hp4 → vS G 2 (.seq (.ret (.call aToken (.cons (.str "int") (.cons (.int 0) (.cons (.loc 1) .nil))))) .skip) ⟨[some (.obj w.i), some (.int b), o2, none, none], hp4⟩ (fun fl st => P (retOf fl) st.heap) := by
    intro k hp4 o2 hk S4 N4
    refine sq_ret ?_
    simp only [vE, vT, vA, onLoc, onStr, onLst, onInt, onTup, onList, onB, Bin, small, goOn, retOf, turnEnd, List.map_cons, List.map_nil, List.append_nil, List.cons_append, List.nil_append, List.replicate, List.getElem?_cons_zero, List.getElem?_cons_succ, List.set_cons_zero, List.set_cons_succ, List.length_cons, List.length_nil, List.length_append, Nat.zero_add, Nat.reduceAdd, Nat.add_zero]
    refine c_token O (by omega) ?_
    refine h hp4 ?_ (((N1.trans N2).trans N3).trans N4)
    rw [← hk, ← Nat.add_assoc]
    exact S4
  refine sq_ife ?_
  simp only [vE, vT, vA, onLoc, onStr, onLst, onInt, onTup, onList, onB, Bin, small, goOn, retOf, turnEnd, List.map_cons, List.map_nil, List.append_nil, List.cons_append, List.nil_append, List.replicate, List.getElem?_cons_zero, List.getElem?_cons_succ, List.set_cons_zero, List.set_cons_succ, List.length_cons, List.length_nil, List.length_append, Nat.zero_add, Nat.reduceAdd, Nat.add_zero, on_scn S3.s]
  refine c_char O (by omega) S3 ?_
  simp only [vE, vT, vA, onLoc, onStr, onLst, onInt, onTup, onList, onB, Bin, small, goOn, retOf, turnEnd, List.map_cons, List.map_nil, List.append_nil, List.cons_append, List.nil_append, List.replicate, List.getElem?_cons_zero, List.getElem?_cons_succ, List.set_cons_zero, List.set_cons_succ, List.length_cons, List.length_nil, List.length_append, Nat.zero_add, Nat.reduceAdd, Nat.add_zero, Cmp, s_E, oc_one]
  have h0 := hnx 0
  rw [Nat.add_zero] at h0
  rw [h0]
  refine ⟨fun e => ?_, fun e => ?_⟩
  · have e := beq_iff_eq.mp e
    have tail : ∀ s : Nat, s = (if r[1]? = some 43 ∨ r[1]? = some 45 then 1 else 0) → vS G 2 (.seq (.ife (.pl (.call aIsDigit (.cons (.meth aScanner aChar (.loc 0) (.cons (.bin .Add (.int 1) (.loc 2)) .nil)) .nil))) (.seq (.setA (.loc 0) 2 (.bin .Add (.bin .Add (.attr 0 2) (.int 1)) (.loc 2))) (.seq (.exp (.meth aScanner aSkipDigits (.loc 0) .nil)) .skip)) .skip) .skip)
        ⟨[some (.obj w.i), some (.int b), some (.int (s : Int)), none, none], hp3⟩ (goOn (fun st1 => vS G 2 (.seq (.ret (.call aToken (.cons (.str "int") (.cons (.int 0) (.cons (.loc 1) .nil))))) .skip) st1 (fun fl st => P (retOf fl) st.heap)) (fun fl st => P (retOf fl) st.heap)) := by
      intro s hs
      refine sq_ife ?_
      simp only [vE, vT, vA, onLoc, onStr, onLst, onInt, onTup, onList, onB, Bin, small, goOn, retOf, turnEnd, List.map_cons, List.map_nil, List.append_nil, List.cons_append, List.nil_append, List.replicate, List.getElem?_cons_zero, List.getElem?_cons_succ, List.set_cons_zero, List.set_cons_succ, List.length_cons, List.length_nil, List.length_append, Nat.zero_add, Nat.reduceAdd, Nat.add_zero, on_scn S3.s]
      rw [show (1 : Int) + (s : Int) = ((1 + s : Nat) : Int) by omega]
      refine c_chark O (by omega) S3 (1 + s) ?_
      try simp only [vE, vT, vA, onLoc, onStr, onLst, onInt, onTup, onList, onB, Bin, small, goOn, retOf, turnEnd, List.map_cons, List.map_nil, List.append_nil, List.cons_append, List.nil_append, List.replicate, List.getElem?_cons_zero, List.getElem?_cons_succ, List.set_cons_zero, List.set_cons_succ, List.length_cons, List.length_nil, List.length_append, Nat.zero_add, Nat.reduceAdd, Nat.add_zero]
      refine c_is_digit O (by omega) _ ?_
      rw [hnx (1 + s)]
      refine ⟨fun e2 => ?_, fun e2 => ?_⟩
      · refine sq_setA ?_
        simp only [vE, vT, vA, onLoc, onStr, onLst, onInt, onTup, onList, onB, Bin, small, goOn, retOf, turnEnd, List.map_cons, List.map_nil, List.append_nil, List.cons_append, List.nil_append, List.replicate, List.getElem?_cons_zero, List.getElem?_cons_succ, List.set_cons_zero, List.set_cons_succ, List.length_cons, List.length_nil, List.length_append, Nat.zero_add, Nat.reduceAdd, Nat.add_zero, at_plc S3.s, set_plc O S3.s]
        have S4 := S3.go (p + 1 + m + (1 + s))
        rw [show ((p + 1 + m : Nat) : Int) + 1 + (s : Int) = ((p + 1 + m + (1 + s) : Nat) : Int) by omega]
        refine sq_exp ?_
        simp only [vE, vT, vA, onLoc, onStr, onLst, onInt, onTup, onList, onB, Bin, small, goOn, retOf, turnEnd, List.map_cons, List.map_nil, List.append_nil, List.cons_append, List.nil_append, List.replicate, List.getElem?_cons_zero, List.getElem?_cons_succ, List.set_cons_zero, List.set_cons_succ, List.length_cons, List.length_nil, List.length_append, Nat.zero_add, Nat.reduceAdd, Nat.add_zero, on_scn S4.s]
        refine c_skip_digits O (by omega) S4 fun hp5 S5 N5 L5 => ?_
        refine sq_skip ?_
        simp only [vE, vT, vA, onLoc, onStr, onLst, onInt, onTup, onList, onB, Bin, small, goOn, retOf, turnEnd, List.map_cons, List.map_nil, List.append_nil, List.cons_append, List.nil_append, List.replicate, List.getElem?_cons_zero, List.getElem?_cons_succ, List.set_cons_zero, List.set_cons_succ, List.length_cons, List.length_nil, List.length_append, Nat.zero_add, Nat.reduceAdd, Nat.add_zero]
        refine sq_skip ?_
        refine fin (1 + s + (run w.x dg (p + 1 + m + (1 + s))).length) hp5 _ ?_ ?_ (Nx.trans (.set (.inl rfl)) N5)
        · rw [if_pos e, expLen, ← hs, if_pos e2]
          unfold run
          rw [hdr]
        · rw [← Nat.add_assoc]
          exact S5
      · refine sq_skip ?_
        simp only [vE, vT, vA, onLoc, onStr, onLst, onInt, onTup, onList, onB, Bin, small, goOn, retOf, turnEnd, List.map_cons, List.map_nil, List.append_nil, List.cons_append, List.nil_append, List.replicate, List.getElem?_cons_zero, List.getElem?_cons_succ, List.set_cons_zero, List.set_cons_succ, List.length_cons, List.length_nil, List.length_append, Nat.zero_add, Nat.reduceAdd, Nat.add_zero]
        refine sq_skip ?_
        refine fin 0 hp3 _ ?_ S3 .refl
        rw [if_pos e, expLen, ← hs, if_neg (by rw [e2]; decide)]
    refine sq_set ?_
    simp only [vE, vT, vA, onLoc, onStr, onLst, onInt, onTup, onList, onB, Bin, small, goOn, retOf, turnEnd, List.map_cons, List.map_nil, List.append_nil, List.cons_append, List.nil_append, List.replicate, List.getElem?_cons_zero, List.getElem?_cons_succ, List.set_cons_zero, List.set_cons_succ, List.length_cons, List.length_nil, List.length_append, Nat.zero_add, Nat.reduceAdd, Nat.add_zero]
    refine sq_ife ?_
    simp only [vE, vT, vA, onLoc, onStr, onLst, onInt, onTup, onList, onB, Bin, small, goOn, retOf, turnEnd, List.map_cons, List.map_nil, List.append_nil, List.cons_append, List.nil_append, List.replicate, List.getElem?_cons_zero, List.getElem?_cons_succ, List.set_cons_zero, List.set_cons_succ, List.length_cons, List.length_nil, List.length_append, Nat.zero_add, Nat.reduceAdd, Nat.add_zero, on_scn S3.s]
    refine c_char1 O (by omega) S3 ?_
    simp only [vE, vT, vA, onLoc, onStr, onLst, onInt, onTup, onList, onB, Bin, small, goOn, retOf, turnEnd, List.map_cons, List.map_nil, List.append_nil, List.cons_append, List.nil_append, List.replicate, List.getElem?_cons_zero, List.getElem?_cons_succ, List.set_cons_zero, List.set_cons_succ, List.length_cons, List.length_nil, List.length_append, Nat.zero_add, Nat.reduceAdd, Nat.add_zero, Cmp, s_plus, s_minus, oc_one, on_scn S3.s]
    have h1 := hnx 1
    rw [h1]
    refine ⟨fun e1 => fork_t ?_, fun e1 => ?_⟩
    · refine sq_set ?_
      simp only [vE, vT, vA, onLoc, onStr, onLst, onInt, onTup, onList, onB, Bin, small, goOn, retOf, turnEnd, List.map_cons, List.map_nil, List.append_nil, List.cons_append, List.nil_append, List.replicate, List.getElem?_cons_zero, List.getElem?_cons_succ, List.set_cons_zero, List.set_cons_succ, List.length_cons, List.length_nil, List.length_append, Nat.zero_add, Nat.reduceAdd, Nat.add_zero]
      refine sq_skip ?_
      exact tail 1 (if_pos (.inl (beq_iff_eq.mp e1))).symm
    · refine c_char1 O (by omega) S3 ?_
      simp only [vE, vT, vA, onLoc, onStr, onLst, onInt, onTup, onList, onB, Bin, small, goOn, retOf, turnEnd, List.map_cons, List.map_nil, List.append_nil, List.cons_append, List.nil_append, List.replicate, List.getElem?_cons_zero, List.getElem?_cons_succ, List.set_cons_zero, List.set_cons_succ, List.length_cons, List.length_nil, List.length_append, Nat.zero_add, Nat.reduceAdd, Nat.add_zero, Cmp, s_plus, s_minus, oc_one, on_scn S3.s]
      rw [h1]
      refine ⟨fun e2 => ?_, fun e2 => ?_⟩
      · refine sq_set ?_
        simp only [vE, vT, vA, onLoc, onStr, onLst, onInt, onTup, onList, onB, Bin, small, goOn, retOf, turnEnd, List.map_cons, List.map_nil, List.append_nil, List.cons_append, List.nil_append, List.replicate, List.getElem?_cons_zero, List.getElem?_cons_succ, List.set_cons_zero, List.set_cons_succ, List.length_cons, List.length_nil, List.length_append, Nat.zero_add, Nat.reduceAdd, Nat.add_zero]
        refine sq_skip ?_
        exact tail 1 (if_pos (.inr (beq_iff_eq.mp e2))).symm
      · refine sq_skip ?_
        exact tail 0 (if_neg (fun z => z.elim (beq_eq_false_iff_ne.mp e1) (beq_eq_false_iff_ne.mp e2))).symm
  · have e := beq_eq_false_iff_ne.mp e
    refine sq_skip ?_
    simp only [vE, vT, vA, onLoc, onStr, onLst, onInt, onTup, onList, onB, Bin, small, goOn, retOf, turnEnd, List.map_cons, List.map_nil, List.append_nil, List.cons_append, List.nil_append, List.replicate, List.getElem?_cons_zero, List.getElem?_cons_succ, List.set_cons_zero, List.set_cons_succ, List.length_cons, List.length_nil, List.length_append, Nat.zero_add, Nat.reduceAdd, Nat.add_zero]
    exact fin 0 hp3 none (if_neg e).symm S3 .refl
end
end Mine
end
section
set_option maxRecDepth 20000
namespace Mine
theorem join_chs (a : List Nat) : Txt.join (PySem.Str.ofString "") (a.map fun c => (⟨#[c]⟩ : Str)) = sl a := by
  rw [s_nil]
  show (⟨((a.map fun c => (⟨#[c]⟩ : Str)).drop 1).foldl (fun acc p => acc ++ #[] ++ p.cps) ((a.map fun c => (⟨#[c]⟩ : Str)).headD Str.empty).cps⟩ : Str) = sl a
  simp only [Array.append_empty]
  cases a with
  | nil => rfl
  | cons c l =>
    show (⟨(l.map fun c => (⟨#[c]⟩ : Str)).foldl (fun acc p => acc ++ p.cps) #[c]⟩ : Str) = _
    rw [fold_chs]
    simp [sl]
theorem StrR.facts {N : Nat} {t a r bs : List Nat} {cl : Bool} (h : StrR N t a r bs cl) : a.length ≤ t.length ∧ r.length ≤ t.length := by
  induction h with
  | close => simp
  | eof => simp
  | nl => simp
  | good _ _ _ _ ih => simp; omega
  | bad _ _ _ _ ih => simp; omega
theorem Sc.upd {w : Wd} {p : Nat} {rows : List AV} {ks : List Int} {hp : List AO} {j : Nat} {o u : AO} (S : Sc w p rows ks hp) (h : hp[j]? = some o) (h1 : j ≠ w.i) (h2 : j ≠ w.e) (h3 : j ≠ w.r) (h4 : j ≠ w.d) : Sc w p rows ks (hp.set j u) :=
  ⟨set_other S.s h1, set_other S.e h2, set_other S.r h3, set_other S.d h4, S.sz⟩
inductive CsI (w : Wd) (b : Nat) (r a : List Nat) (cl : Bool) (bs : List Nat) (rows : List AV) (ks : List Int) (hp : List AO) : ASt → Prop
  | mk (q : Nat) (t' a' ad bs' : List Nat) (rows' : List AV) (ks' : List Int) (hp' : List AO) (o : Option AV) (hA : At w.x.cps.toList q t') (hR : StrR w.x.cps.toList.length t' a' r bs' cl) (had : ad ++ a' = a) (hbq : b < q) (er : rows' ++ (bs'.map fun p => mk1 p "bad_character") = rows ++ (bs.map fun p => mk1 p "bad_character")) (ek : ks'.length + bs'.length ≤ ks.length + bs.length) (el : rows'.length + bs'.length + 1 ≤ 1000)
      (hk : ∀ k ∈ ks', k < (q : Int) ∧ k ≠ (b : Int)) (S : Sc w q rows' ks' hp') (N : Nx w hp hp') (L : hp'.length = hp.length + 1) (hch : hp'[hp.length]? = some (.list (chs ad))) : CsI w b r a cl bs rows ks hp ⟨[some (.obj w.i), some (.int b), some (.obj hp.length), o, none, none], hp'⟩
section
variable {G : Gl} {n : Nat} {hp : List AO} {w : Wd} {p : Nat} {rows : List AV} {ks : List Int} {P : AV → List AO → Prop}
theorem Sc.lt (S : Sc w p rows ks hp) : w.i < hp.length ∧ w.e < hp.length ∧ w.r < hp.length ∧ w.d < hp.length :=
  ⟨(List.getElem?_eq_some_iff.mp S.s).1, (List.getElem?_eq_some_iff.mp S.e).1, (List.getElem?_eq_some_iff.mp S.r).1, (List.getElem?_eq_some_iff.mp S.d).1⟩
theorem c_string (O : Ok G) (hn : 3 ≤ n) (S : Sc w p rows ks hp) {b : Nat} {t a r bs : List Nat} {cl : Bool} (hA : At w.x.cps.toList (b + 1) t) (hR : StrR w.x.cps.toList.length t a r bs cl) (hk : ∀ k ∈ ks, k < (b : Int)) (h1 : rows.length + bs.length + 1 ≤ 1000) (h2 : ks.length + bs.length + 1 ≤ 1000)
    (ha : t.length ≤ 100000)
    (h : ∀ q ks' hp', At w.x.cps.toList q r → Sc w q (rows ++ (bs.map fun p => mk1 p "bad_character") ++ (if cl = true then [] else [mk1 b "unfinished_string"])) ks' hp' → (∀ k ∈ ks', k < (q : Int)) → ks'.length ≤ ks.length + bs.length + 1 → Nx w hp hp' → P (.obj hp'.length) (hp' ++ [tok (.str "string") (.str (sl a)) b])) :
    TF G n aString [.obj w.i, .int b] hp P := by
  obtain ⟨Pm, hK⟩ := O.hk
  refine (f_Scanner_string hK).at O.tab 2 hn rfl ?_
  unfold ir_Scanner_string
  have Lt := S.lt
  refine sq_set ?_
  simp only [vE, vT, vA, onLoc, onStr, onLst, onInt, onTup, onList, onB, Bin, small, goOn, retOf, turnEnd, List.map_cons, List.map_nil, List.append_nil, List.cons_append, List.nil_append, List.replicate, List.getElem?_cons_zero, List.getElem?_cons_succ, List.set_cons_zero, List.set_cons_succ, List.length_cons, List.length_nil, List.length_append, Nat.zero_add, Nat.reduceAdd, Nat.add_zero]
  refine ⟨by decide, ?_⟩
  refine sq_setA ?_
  have S0 := S.push (.list [])
  simp only [vE, vT, vA, onLoc, onStr, onLst, onInt, onTup, onList, onB, Bin, small, goOn, retOf, turnEnd, List.map_cons, List.map_nil, List.append_nil, List.cons_append, List.nil_append, List.replicate, List.getElem?_cons_zero, List.getElem?_cons_succ, List.set_cons_zero, List.set_cons_succ, List.length_cons, List.length_nil, List.length_append, Nat.zero_add, Nat.reduceAdd, Nat.add_zero, set_plc O S0.s]
  have S1 := S0.go (b + 1)
  rw [show (b : Int) + 1 = ((b + 1 : Nat) : Int) by omega]
  refine sq_whl ?_
  have hch0 : ((hp ++ [AO.list []]).set w.i (scn w.x w.e ((b + 1 : Nat) : Int)))[hp.length]? = some (.list (chs [])) := set_other at_len (by omega)
  refine ⟨CsI w b r a cl bs rows ks hp,
    fun st => w.x.cps.toList.length - plc w st, ⟨b + 1, t, a, [], bs, rows, ks, _, none, hA, hR, rfl, by omega, rfl, Nat.le_refl _, h1, fun k hm => ⟨by have := hk k hm; omega, by have := hk k hm; omega⟩, S1, Nx.push.trans (.set (.inl rfl)), by simp, hch0⟩, ?_⟩
  intro st1 hi
  obtain ⟨q, t', a', ad, bs', rows', ks', hp1, o, hA1, hR1, had, hbq, er, ek, el, hk1, S1, N1, L1, hch⟩ := hi
  have hpl := hA1.pos
  have hf := hR1.facts
  have had' : ad.length + a'.length = a.length := by rw [← had, List.length_append]
  have hRf := hR.facts
  have hj : hp.length ≠ w.i ∧ hp.length ≠ w.e ∧ hp.length ≠ w.r ∧ hp.length ≠ w.d := ⟨by omega, by omega, by omega, by omega⟩
  simp only [vE, vT, vA, onLoc, onStr, onLst, onInt, onTup, onList, onB, Bin, small, goOn, retOf, turnEnd, List.map_cons, List.map_nil, List.append_nil, List.cons_append, List.nil_append, List.replicate, List.getElem?_cons_zero, List.getElem?_cons_succ, List.set_cons_zero, List.set_cons_succ, List.length_cons, List.length_nil, List.length_append, Nat.zero_add, Nat.reduceAdd, Nat.add_zero, on_scn S1.s]
  refine c_char O (by omega) S1 ?_
  simp only [vE, vT, vA, onLoc, onStr, onLst, onInt, onTup, onList, onB, Bin, small, goOn, retOf, turnEnd, List.map_cons, List.map_nil, List.append_nil, List.cons_append, List.nil_append, List.replicate, List.getElem?_cons_zero, List.getElem?_cons_succ, List.set_cons_zero, List.set_cons_succ, List.length_cons, List.length_nil, List.length_append, Nat.zero_add, Nat.reduceAdd, Nat.add_zero, Cmp, s_quote, bne, oc_one]
  have jn : ∀ (e : IE) (hp2 : List AO) (o4 : Option AV), hp2[hp.length]? = some (.list (chs ad)) → P (.obj hp2.length) (hp2 ++ [tok (.str "string") (.str (sl ad)) b]) →
      vS G 2 (.seq (.ret (.call aToken (.cons (.str "string") (.cons (.join (.str "") (.loc 2)) (.cons (.loc 1) .nil))))) .skip) ⟨[some (.obj w.i), some (.int b), some (.obj hp.length), o4, none, none], hp2⟩ (fun fl st => P (retOf fl) st.heap) := by
    intro _ hp2 o4 hc hP
    refine sq_ret ?_
    simp only [vE, vT, vA, onLoc, onStr, onLst, onInt, onTup, onList, onB, Bin, small, goOn, retOf, turnEnd, List.map_cons, List.map_nil, List.append_nil, List.cons_append, List.nil_append, List.replicate, List.getElem?_cons_zero, List.getElem?_cons_succ, List.set_cons_zero, List.set_cons_succ, List.length_cons, List.length_nil, List.length_append, Nat.zero_add, Nat.reduceAdd, Nat.add_zero, Join, seqOf, hc, strs_chs]
    refine ⟨⟨by decide, ?_⟩, ?_⟩
    · rw [sum_chs, List.length_map]; omega
    · rw [join_chs]
      exact c_token O (by omega) hP
  rw [hA1.h0]
  refine ⟨fun e => ?_, fun e => ?_⟩
  · refine sq_set ?_
    simp only [vE, vT, vA, onLoc, onStr, onLst, onInt, onTup, onList, onB, Bin, small, goOn, retOf, turnEnd, List.map_cons, List.map_nil, List.append_nil, List.cons_append, List.nil_append, List.replicate, List.getElem?_cons_zero, List.getElem?_cons_succ, List.set_cons_zero, List.set_cons_succ, List.length_cons, List.length_nil, List.length_append, Nat.zero_add, Nat.reduceAdd, Nat.add_zero, on_scn S1.s]
    refine c_char O (by omega) S1 ?_
    rw [hA1.h0]
    cases hR1 with
    | close => simp at e
    | eof =>
      refine sq_ife ?_
      simp only [vE, vT, vA, onLoc, onStr, onLst, onInt, onTup, onList, onB, Bin, small, goOn, retOf, turnEnd, List.map_cons, List.map_nil, List.append_nil, List.cons_append, List.nil_append, List.replicate, List.getElem?_cons_zero, List.getElem?_cons_succ, List.set_cons_zero, List.set_cons_succ, List.length_cons, List.length_nil, List.length_append, Nat.zero_add, Nat.reduceAdd, Nat.add_zero, Cmp, s_nil, oc_none]
      refine fork_t (fork_t (sq_exp ?_))
      simp only [vE, vT, vA, onLoc, onStr, onLst, onInt, onTup, onList, onB, Bin, small, goOn, retOf, turnEnd, List.map_cons, List.map_nil, List.append_nil, List.cons_append, List.nil_append, List.replicate, List.getElem?_cons_zero, List.getElem?_cons_succ, List.set_cons_zero, List.set_cons_succ, List.length_cons, List.length_nil, List.length_append, Nat.zero_add, Nat.reduceAdd, Nat.add_zero, at_err S1.s, on_erl S1.e]
      refine c_mark O (by omega) S1 ?_ (by simp at el; omega) (by simp at ek; omega) fun hp2 S2 N2 L2 => ?_
      · rw [List.contains_eq_mem, decide_eq_false_iff_not]
        exact fun hm => (hk1 _ hm).2 rfl
      rw [List.append_nil] at had
      subst had
      refine jn .none hp2 _ ?_ (h q ((b : Int) :: ks') hp2 hA1 ?_ ?_ ?_ (N1.trans N2))
      · rw [N2.2 _ (by omega) hj.1 hj.2.2.1 hj.2.2.2]; exact hch
      · simp only [List.map_nil, List.append_nil] at er
        rw [er] at S2
        rw [if_neg Bool.false_ne_true]
        exact S2
      · intro k hm
        rcases List.mem_cons.mp hm with rfl | hm
        · omega
        · exact (hk1 k hm).1
      · simp at ek ⊢; omega
    | nl =>
      refine sq_ife ?_
      simp only [vE, vT, vA, onLoc, onStr, onLst, onInt, onTup, onList, onB, Bin, small, goOn, retOf, turnEnd, List.map_cons, List.map_nil, List.append_nil, List.cons_append, List.nil_append, List.replicate, List.getElem?_cons_zero, List.getElem?_cons_succ, List.set_cons_zero, List.set_cons_succ, List.length_cons, List.length_nil, List.length_append, Nat.zero_add, Nat.reduceAdd, Nat.add_zero, Cmp, s_nil, s_nl, oc_none, oc_one]
      refine ⟨fun z => by simp at z, fun _ => fork_t (sq_exp ?_)⟩
      simp only [vE, vT, vA, onLoc, onStr, onLst, onInt, onTup, onList, onB, Bin, small, goOn, retOf, turnEnd, List.map_cons, List.map_nil, List.append_nil, List.cons_append, List.nil_append, List.replicate, List.getElem?_cons_zero, List.getElem?_cons_succ, List.set_cons_zero, List.set_cons_succ, List.length_cons, List.length_nil, List.length_append, Nat.zero_add, Nat.reduceAdd, Nat.add_zero, at_err S1.s, on_erl S1.e]
      refine c_mark O (by omega) S1 ?_ (by simp at el; omega) (by simp at ek; omega) fun hp2 S2 N2 L2 => ?_
      · rw [List.contains_eq_mem, decide_eq_false_iff_not]
        exact fun hm => (hk1 _ hm).2 rfl
      rw [List.append_nil] at had
      subst had
      refine jn .none hp2 _ ?_ (h q ((b : Int) :: ks') hp2 hA1 ?_ ?_ ?_ (N1.trans N2))
      · rw [N2.2 _ (by omega) hj.1 hj.2.2.1 hj.2.2.2]; exact hch
      · simp only [List.map_nil, List.append_nil] at er
        rw [er] at S2
        rw [if_neg Bool.false_ne_true]
        exact S2
      · intro k hm
        rcases List.mem_cons.mp hm with rfl | hm
        · omega
        · exact (hk1 k hm).1
      · simp at ek ⊢; omega
    | @good c t2 a2 _ _ _ g1 g2 g3 hr =>
      refine sq_ife ?_
      simp only [vE, vT, vA, onLoc, onStr, onLst, onInt, onTup, onList, onB, Bin, small, goOn, retOf, turnEnd, List.map_cons, List.map_nil, List.append_nil, List.cons_append, List.nil_append, List.replicate, List.getElem?_cons_zero, List.getElem?_cons_succ, List.set_cons_zero, List.set_cons_succ, List.length_cons, List.length_nil, List.length_append, Nat.zero_add, Nat.reduceAdd, Nat.add_zero, Cmp, s_nil, s_nl, oc_none, oc_one]
      refine ⟨fun z => by simp at z, fun _ => ⟨fun z => absurd (by simpa using z) g2, fun _ => ?_⟩⟩
      refine sq_skip ?_
      simp only [vE, vT, vA, onLoc, onStr, onLst, onInt, onTup, onList, onB, Bin, small, goOn, retOf, turnEnd, List.map_cons, List.map_nil, List.append_nil, List.cons_append, List.nil_append, List.replicate, List.getElem?_cons_zero, List.getElem?_cons_succ, List.set_cons_zero, List.set_cons_succ, List.length_cons, List.length_nil, List.length_append, Nat.zero_add, Nat.reduceAdd, Nat.add_zero]
      refine sq_ife ?_
      simp only [vE, vT, vA, onLoc, onStr, onLst, onInt, onTup, onList, onB, Bin, small, goOn, retOf, turnEnd, List.map_cons, List.map_nil, List.append_nil, List.cons_append, List.nil_append, List.replicate, List.getElem?_cons_zero, List.getElem?_cons_succ, List.set_cons_zero, List.set_cons_succ, List.length_cons, List.length_nil, List.length_append, Nat.zero_add, Nat.reduceAdd, Nat.add_zero, Cmp, Ord]
      refine ⟨rfl, ?_⟩
      rw [show decide ((255 : Int) < ((oc (some c)).cps.getD 0 0 : Int)) = false from decide_eq_false (by show ¬ ((255 : Int) < (c : Int)); omega)]
      refine fork_f (sq_exp ?_)
      simp only [vE, vT, vA, onLoc, onStr, onLst, onInt, onTup, onList, onB, Bin, small, goOn, retOf, turnEnd, List.map_cons, List.map_nil, List.append_nil, List.cons_append, List.nil_append, List.replicate, List.getElem?_cons_zero, List.getElem?_cons_succ, List.set_cons_zero, List.set_cons_succ, List.length_cons, List.length_nil, List.length_append, Nat.zero_add, Nat.reduceAdd, Nat.add_zero, hch, App]
      refine ⟨by simp [chs]; rw [sizeLine_eq]; omega, ?_⟩
      refine sq_skip ?_
      simp only [vE, vT, vA, onLoc, onStr, onLst, onInt, onTup, onList, onB, Bin, small, goOn, retOf, turnEnd, List.map_cons, List.map_nil, List.append_nil, List.cons_append, List.nil_append, List.replicate, List.getElem?_cons_zero, List.getElem?_cons_succ, List.set_cons_zero, List.set_cons_succ, List.length_cons, List.length_nil, List.length_append, Nat.zero_add, Nat.reduceAdd, Nat.add_zero]
      have S2 := S1.upd (u := .list (chs ad ++ [AV.str (oc (some c))])) hch hj.1 hj.2.1 hj.2.2.1 hj.2.2.2
      refine sq_setA ?_
      simp only [vE, vT, vA, onLoc, onStr, onLst, onInt, onTup, onList, onB, Bin, small, goOn, retOf, turnEnd, List.map_cons, List.map_nil, List.append_nil, List.cons_append, List.nil_append, List.replicate, List.getElem?_cons_zero, List.getElem?_cons_succ, List.set_cons_zero, List.set_cons_succ, List.length_cons, List.length_nil, List.length_append, Nat.zero_add, Nat.reduceAdd, Nat.add_zero, at_plc S2.s, set_plc O S2.s]
      have S3 := S2.go (q + 1)
      rw [show (q : Int) + 1 = ((q + 1 : Nat) : Int) by omega]
      refine sq_skip ?_
      simp only [List.length_cons] at hpl
      refine ⟨⟨q + 1, t2, a2, ad ++ [c], bs', rows', ks', _, _, hA1.step, hr, by rw [← had]; simp, by omega, er, ek, el, fun k hm => ⟨by have := (hk1 k hm).1; omega, (hk1 k hm).2⟩, S3, ?_, by simp [L1], ?_⟩, ?_⟩
      · refine Nx.trans ⟨by simp; omega, fun j h1 h2 h3 h4 => ?_⟩ (.set (.inl rfl))
        rw [List.getElem?_set_ne (by omega)]
        exact N1.2 j h1 h2 h3 h4
      · refine set_other ?_ (Ne.symm hj.1)
        rw [set_same hch]
        simp [chs, oc]
      · rw [S1.plc, S3.plc]; omega
    | @bad c t2 a2 _ bs2 _ g1 g2 g3 hr =>
      refine sq_ife ?_
      simp only [vE, vT, vA, onLoc, onStr, onLst, onInt, onTup, onList, onB, Bin, small, goOn, retOf, turnEnd, List.map_cons, List.map_nil, List.append_nil, List.cons_append, List.nil_append, List.replicate, List.getElem?_cons_zero, List.getElem?_cons_succ, List.set_cons_zero, List.set_cons_succ, List.length_cons, List.length_nil, List.length_append, Nat.zero_add, Nat.reduceAdd, Nat.add_zero, Cmp, s_nil, s_nl, oc_none, oc_one]
      refine ⟨fun z => by simp at z, fun _ => ⟨fun z => absurd (by simpa using z) g2, fun _ => ?_⟩⟩
      refine sq_skip ?_
      simp only [vE, vT, vA, onLoc, onStr, onLst, onInt, onTup, onList, onB, Bin, small, goOn, retOf, turnEnd, List.map_cons, List.map_nil, List.append_nil, List.cons_append, List.nil_append, List.replicate, List.getElem?_cons_zero, List.getElem?_cons_succ, List.set_cons_zero, List.set_cons_succ, List.length_cons, List.length_nil, List.length_append, Nat.zero_add, Nat.reduceAdd, Nat.add_zero]
      refine sq_ife ?_
      simp only [vE, vT, vA, onLoc, onStr, onLst, onInt, onTup, onList, onB, Bin, small, goOn, retOf, turnEnd, List.map_cons, List.map_nil, List.append_nil, List.cons_append, List.nil_append, List.replicate, List.getElem?_cons_zero, List.getElem?_cons_succ, List.set_cons_zero, List.set_cons_succ, List.length_cons, List.length_nil, List.length_append, Nat.zero_add, Nat.reduceAdd, Nat.add_zero, Cmp, Ord]
      refine ⟨rfl, ?_⟩
      rw [show decide ((255 : Int) < ((oc (some c)).cps.getD 0 0 : Int)) = true from decide_eq_true (by show ((255 : Int) < (c : Int)); omega)]
      refine fork_t (sq_exp ?_)
      simp only [vE, vT, vA, onLoc, onStr, onLst, onInt, onTup, onList, onB, Bin, small, goOn, retOf, turnEnd, List.map_cons, List.map_nil, List.append_nil, List.cons_append, List.nil_append, List.replicate, List.getElem?_cons_zero, List.getElem?_cons_succ, List.set_cons_zero, List.set_cons_succ, List.length_cons, List.length_nil, List.length_append, Nat.zero_add, Nat.reduceAdd, Nat.add_zero, at_err S1.s, on_erl S1.e, at_plc S1.s]
      simp only [List.length_cons] at hpl el ek
      refine c_mark O (by omega) S1 ?_ (by omega) (by omega) fun hp2 S2 N2 L2 => ?_
      · rw [List.contains_eq_mem, decide_eq_false_iff_not]
        exact fun hm => Int.lt_irrefl _ (hk1 _ hm).1
      refine sq_skip ?_
      simp only [vE, vT, vA, onLoc, onStr, onLst, onInt, onTup, onList, onB, Bin, small, goOn, retOf, turnEnd, List.map_cons, List.map_nil, List.append_nil, List.cons_append, List.nil_append, List.replicate, List.getElem?_cons_zero, List.getElem?_cons_succ, List.set_cons_zero, List.set_cons_succ, List.length_cons, List.length_nil, List.length_append, Nat.zero_add, Nat.reduceAdd, Nat.add_zero]
      refine sq_setA ?_
      simp only [vE, vT, vA, onLoc, onStr, onLst, onInt, onTup, onList, onB, Bin, small, goOn, retOf, turnEnd, List.map_cons, List.map_nil, List.append_nil, List.cons_append, List.nil_append, List.replicate, List.getElem?_cons_zero, List.getElem?_cons_succ, List.set_cons_zero, List.set_cons_succ, List.length_cons, List.length_nil, List.length_append, Nat.zero_add, Nat.reduceAdd, Nat.add_zero, at_plc S2.s, set_plc O S2.s]
      have S3 := S2.go (q + 1)
      rw [show (q : Int) + 1 = ((q + 1 : Nat) : Int) by omega]
      refine sq_skip ?_
      refine ⟨⟨q + 1, t2, _, ad, bs2, _, _, _, _, hA1.step, hr, had, by omega, ?_, by simp; omega, by simp; omega, fun k hm => ?_, S3, (N1.trans N2).trans (.set (.inl rfl)), by simp; omega, ?_⟩, ?_⟩
      · rw [← er, List.map_cons, show w.x.cps.toList.length - (t2.length + 1) = q by omega]
        simp [mk1]
      · rcases List.mem_cons.mp hm with rfl | hm
        · exact ⟨by omega, by omega⟩
        · exact ⟨by have := (hk1 k hm).1; omega, (hk1 k hm).2⟩
      · refine set_other ?_ (Ne.symm hj.1)
        rw [N2.2 _ (by omega) hj.1 hj.2.2.1 hj.2.2.2]; exact hch
      · rw [S1.plc, S3.plc]; omega
  · cases hR1 with
    | @close t2 =>
      refine sq_setA ?_
      simp only [vE, vT, vA, onLoc, onStr, onLst, onInt, onTup, onList, onB, Bin, small, goOn, retOf, turnEnd, List.map_cons, List.map_nil, List.append_nil, List.cons_append, List.nil_append, List.replicate, List.getElem?_cons_zero, List.getElem?_cons_succ, List.set_cons_zero, List.set_cons_succ, List.length_cons, List.length_nil, List.length_append, Nat.zero_add, Nat.reduceAdd, Nat.add_zero, at_plc S1.s, set_plc O S1.s]
      have S2 := S1.go (q + 1)
      rw [show (q : Int) + 1 = ((q + 1 : Nat) : Int) by omega]
      rw [List.append_nil] at had
      subst had
      refine jn .none _ _ (set_other hch (Ne.symm hj.1)) (h (q + 1) ks' _ hA1.step ?_ ?_ ?_ (N1.trans (.set (.inl rfl))))
      · simp only [List.map_nil, List.append_nil] at er
        rw [er] at S2
        simpa using S2
      · intro k hm
        have := (hk1 k hm).1
        omega
      · simp at ek ⊢; omega
    | eof => simp at e
    | nl => simp at e
    | good g1 _ _ _ => exact absurd (by simpa using e) g1
    | bad g1 _ _ _ => exact absurd (by simpa using e) g1
end
end Mine
end
section
set_option maxRecDepth 20000
namespace Mine
section
variable {G : Gl} {n : Nat} {hp : List AO} {w : Wd} {p : Nat} {rows : List AV} {ks : List Int} {P : AV → List AO → Prop}
theorem c_ok (O : Ok G) (hn : 1 ≤ n) (S : Sc w p rows ks hp) (hl : rows.length ≤ 1000) (h : P (.bool ((rows.length : Int) == 0)) hp) : TF G n aOk [.obj w.e] hp P := by
  obtain ⟨Pm, hK⟩ := O.hk
  refine (f_ErrorList_ok hK).at O.tab 0 hn rfl ?_
  unfold ir_ErrorList_ok
  refine sq_ret ?_
  simp only [vE, vT, vA, onLoc, onStr, onLst, onInt, onTup, onList, onB, Bin, small, goOn, retOf, turnEnd, List.map_cons, List.map_nil, List.append_nil, List.cons_append, List.nil_append, List.replicate, List.getElem?_cons_zero, List.getElem?_cons_succ, List.set_cons_zero, List.set_cons_succ, List.length_cons, List.length_nil, List.length_append, Nat.zero_add, Nat.reduceAdd, Nat.add_zero, at_row S.e, at_ln S.r, Cmp]
  exact ⟨Nat.le_trans hl (by decide), h⟩
theorem c_first (O : Ok G) (hn : 1 ≤ n) (S : Sc w p rows ks hp) {is : List Int} (hf : firsts rows = some is) (hp' : is.Pairwise (· < ·)) (hl : rows.length < 64) (h0 : rows = [] → P .none hp) (h1 : ∀ v r, rows = v :: r → P v hp) : TF G n aFirst [.obj w.e] hp P := by
  obtain ⟨Pm, hK⟩ := O.hk
  refine (f_ErrorList_first hK).at O.tab 0 hn rfl ?_
  unfold ir_ErrorList_first
  refine sq_ife ?_
  simp only [vE, vT, vA, onLoc, onStr, onLst, onInt, onTup, onList, onB, Bin, small, goOn, retOf, turnEnd, List.map_cons, List.map_nil, List.append_nil, List.cons_append, List.nil_append, List.replicate, List.getElem?_cons_zero, List.getElem?_cons_succ, List.set_cons_zero, List.set_cons_succ, List.length_cons, List.length_nil, List.length_append, Nat.zero_add, Nat.reduceAdd, Nat.add_zero, at_row S.e, at_ln S.r, Cmp]
  refine ⟨by rw [sizeLine_eq]; omega, fun e => ?_, fun e => ?_⟩
  · refine sq_ret ?_
    simp only [vE, vT, vA, onLoc, onStr, onLst, onInt, onTup, onList, onB, Bin, small, goOn, retOf, turnEnd, List.map_cons, List.map_nil, List.append_nil, List.cons_append, List.nil_append, List.replicate, List.getElem?_cons_zero, List.getElem?_cons_succ, List.set_cons_zero, List.set_cons_succ, List.length_cons, List.length_nil, List.length_append, Nat.zero_add, Nat.reduceAdd, Nat.add_zero]
    have e := beq_iff_eq.mp e
    exact h0 (List.length_eq_zero_iff.mp (by omega))
  · refine sq_skip ?_
    simp only [vE, vT, vA, onLoc, onStr, onLst, onInt, onTup, onList, onB, Bin, small, goOn, retOf, turnEnd, List.map_cons, List.map_nil, List.append_nil, List.cons_append, List.nil_append, List.replicate, List.getElem?_cons_zero, List.getElem?_cons_succ, List.set_cons_zero, List.set_cons_succ, List.length_cons, List.length_nil, List.length_append, Nat.zero_add, Nat.reduceAdd, Nat.add_zero]
    refine sq_ret ?_
    have e := beq_eq_false_iff_ne.mp e
    match rows, S, hf, hl, h1, e with
    | [], _, _, _, _, e => exact absurd rfl e
    | v :: r, S, hf, hl, h1, _ =>
      simp only [vE, vT, vA, onLoc, onStr, onLst, onInt, onTup, onList, onB, Bin, small, goOn, retOf, turnEnd, List.map_cons, List.map_nil, List.append_nil, List.cons_append, List.nil_append, List.replicate, List.getElem?_cons_zero, List.getElem?_cons_succ, List.set_cons_zero, List.set_cons_succ, List.length_cons, List.length_nil, List.length_append, Nat.zero_add, Nat.reduceAdd, Nat.add_zero, at_row S.e, Sorted, seqOf, S.r, Idx]
      exact ⟨⟨is, hf, hp', by omega, hl⟩, ⟨by decide, by decide⟩, v, rfl, h1 v r rfl⟩
end
noncomputable def cd (s : String) : List Nat := (PySem.Str.ofString s).cps.toList
theorem sl_cd (s : String) : sl (cd s) = PySem.Str.ofString s := by simp [sl, cd]
theorem sl_append (a b : List Nat) : sl a ++ sl b = sl (a ++ b) := by
  show (⟨a.toArray ++ b.toArray⟩ : Str) = ⟨(a ++ b).toArray⟩
  simp
theorem sl_beq (a b : List Nat) : (sl a == sl b) = (a == b) := by rw [beq_str, sl_list, sl_list]
theorem run_next {x : Str} {g : Nat → Bool} {b i : Nat} : x.cps.toList[b + (run x g b).length + i]? = ((x.cps.toList.drop b).dropWhile g)[i]? := by
  unfold run
  rw [Nat.add_assoc, ← List.getElem?_drop]
  generalize x.cps.toList.drop b = l
  have e : l[(l.takeWhile g).length + i]? = (l.takeWhile g ++ l.dropWhile g)[(l.takeWhile g).length + i]? := by rw [List.takeWhile_append_dropWhile]
  rw [e, List.getElem?_append_right (Nat.le_add_right _ _), Nat.add_sub_cancel_left]
theorem tw_app {g : Nat → Bool} {ds r : List Nat} (h : ∀ c ∈ ds, g c = true) : (ds ++ r).takeWhile g = ds ++ r.takeWhile g := List.takeWhile_append_of_pos h
theorem dw_app {g : Nat → Bool} {ds r : List Nat} (h : ∀ c ∈ ds, g c = true) : (ds ++ r).dropWhile g = r.dropWhile g := List.dropWhile_append_of_pos h
theorem sl_inj {a b : List Nat} (h : sl a = sl b) : a = b := by
  have := congrArg (fun x : Str => x.cps.toList) h
  simpa [sl_list] using this
noncomputable def idents : List String := ["a", "Zx", "x9", "TRUE", "INTEGER", "begin", "E", "ABCDEF"]
noncomputable def kws : List String := ["ARRAY", "BEGIN", "BY", "CASE", "CONST", "DIV", "DO", "ELSE", "ELSIF", "END", "FOR", "IF", "IMPORT", "IN", "IS", "MOD", "MODULE", "NIL", "OF", "OR", "POINTER", "PROCEDURE", "RECORD", "REPEAT", "RETURN", "THEN", "TO", "TYPE", "UNTIL", "VAR", "WHILE"]
noncomputable def nums : List (String × Int) := [("0", 0), ("7", 7), ("0FFH", 255), ("12", 12), ("10H", 16), ("2147483647", 2147483647), ("0FFFFFFFFH", -1)]
noncomputable def txts : List (List Nat) := [cd "", cd "a", cd "it's (* no *) remark", cd "\t!" ++ [255], cd "41X"]
noncomputable def sgns : List String := [":=", "<=", ">=", "..", "+", "-", "*", "/", "~", "&", ".", ",", ";", "|", "(", "[", "{", "^", "=", "#", "<", ">", ":", ")", "]", "}"]
noncomputable def bads : List Nat := [33, 36, 64, 39, 92, 95, 63, 37, 96, 233]
noncomputable def bchs : List String := ["100X", "0FFFX", "00100X"]
noncomputable def bigs : List String := ["2147483648", "100000000H", "99999999999", "0FFFFFFFFFH"]
noncomputable def reals : List String := ["1.5", "0.", "12.25E3", "3.E-7", "7.1E+08"]
noncomputable def hxd (n : Nat) : Nat := hexc.getD n 0
inductive Drawn : List Nat → List Nat → Nat → Option Str → AV → List (Str × Nat) → Prop
  | ident {s : String} (h : s ∈ idents) : Drawn (cd s) [] 1 (some "ident") (.str (sl (cd s))) []
  | word {s : String} (h : s ∈ kws) : Drawn (cd s) [] 1 (some (sl (cd s))) (.str "") []
  | num {x : String × Int} (h : x ∈ nums) : Drawn (cd x.1) [] 1 (some "int") (.int x.2) []
  | text {v : List Nat} (h : v ∈ txts) : Drawn (34 :: (v ++ [34])) [] 0 (some "string") (.str (sl v)) []
  | chr {k : Nat} (h : k < 256) : Drawn [48, hxd (k / 16), hxd (k % 16), 88] [] 1 (some "string") (.str ⟨#[k]⟩) []
  | sgn {s : String} (h : s ∈ sgns) : Drawn (cd s) [] 2 (some (sl (cd s))) (.str "") []
  | bad {c : Nat} (h : c ∈ bads) : Drawn [c] [] 0 none .none [("bad_character", 0)]
  | bch {s : String} (h : s ∈ bchs) : Drawn (cd s) [] 1 (some "string") (.str ⟨#[0]⟩) [("bad_char", 0)]
  | big {s : String} (h : s ∈ bigs) : Drawn (cd s) [] 1 (some "int") (.int 0) [("number_too_large", 0)]
  | real {s : String} (h : s ∈ reals) : Drawn (cd s) [] 1 (some "int") (.int 0) [("reals_left_out", 0)]
  | btxt : Drawn [34, 97, 256, 98, 1000, 34] [] 0 (some "string") (.str (sl [97, 98])) [("bad_character", 2), ("bad_character", 4)]
  | utxt : Drawn [34, 97, 32, 40, 42, 32, 98] [10] 0 (some "string") (.str (sl [97, 32, 40, 42, 32, 98])) [("unfinished_string", 0)]
noncomputable def kAV : Option Str → AV
  | none => .none
  | some s => .str s
noncomputable def mAV (ms : List (Str × Nat)) : List AV := ms.map fun m => .tup [.str m.1, .int (m.2 : Int)]
noncomputable def dAV (row tail : List Nat) (kind : Option Str) (val : AV) (ms : List (Str × Nat)) : AV := .tup [.str (sl (row ++ tail)), kAV kind, val, .lst (mAV ms)]
noncomputable def Nb (j : Nat) (hp hp' : List AO) : Prop := hp'.length = hp.length ∧ ∀ q, q ≠ j → hp'[q]? = hp[q]?
theorem Nb.refl {j : Nat} {hp : List AO} : Nb j hp hp := ⟨rfl, fun _ _ => rfl⟩
theorem Nb.trans {j : Nat} {a b c : List AO} (h : Nb j a b) (k : Nb j b c) : Nb j a c := ⟨k.1.trans h.1, fun q hq => (k.2 q hq).trans (h.2 q hq)⟩
theorem idx_any {hp : List AO} {l : List AV} {v : Int} {k : AV → Prop} (h0 : 0 ≤ v) (h1 : v < l.length) (hl : l.length ≤ 1000) (h : ∀ x ∈ l, k x) : Idx hp (.lst l) (.int v) k := by
  have hlt : v.toNat < l.length := by omega
  simp only [Idx, seqOf]
  exact ⟨⟨h0, by omega⟩, l[v.toNat], List.getElem?_eq_getElem hlt, h _ (List.getElem_mem hlt)⟩
noncomputable def sAV (l : List String) : List AV := l.map fun s => .str (PySem.Str.ofString s)
theorem mem_sAV {l : List String} {x : AV} (h : x ∈ sAV l) : ∃ s ∈ l, x = .str (sl (cd s)) := by
  obtain ⟨s, hs, rfl⟩ := List.mem_map.mp h
  exact ⟨s, hs, by rw [sl_cd]⟩
section
variable {G : Gl} {n : Nat} {hp : List AO} {P : AV → List AO → Prop} {i j : Nat}
theorem c_pick' (O : Ok G) (hn : 1 ≤ n) {b : Int} (hb : 0 < b) (hP : PoolAt hp i j) (h : ∀ v hp', 0 ≤ v → v < b → PoolAt hp' i j → Nb j hp hp' → P (.int v) hp') : TF G n aPick [.obj j, .int b] hp P :=
  c_pick O hn hb hP fun v hp' h1 h2 h3 h4 h5 => h v hp' h1 h2 h3 ⟨h4, h5⟩
theorem c_words (O : Ok G) (hn : 1 ≤ n) (h : P (.lst (sAV kws)) hp) : TF G n aWords [] hp P := by
  obtain ⟨Pm, hK⟩ := O.hk
  refine (f_law_words hK).at O.tab 0 hn rfl ?_
  unfold ir__law_words
  refine sq_set ?_
  simp only [vE, vT, vA, onLoc, onStr, onLst, onInt, onTup, onList, onB, Bin, small, goOn, retOf, turnEnd, List.map_cons, List.map_nil, List.append_nil, List.cons_append, List.nil_append, List.replicate, List.getElem?_cons_zero, List.getElem?_cons_succ, List.set_cons_zero, List.set_cons_succ, List.length_cons, List.length_nil, List.length_append, Nat.zero_add, Nat.reduceAdd, Nat.add_zero]
  refine sq_ret ?_
  simp only [vE, vT, vA, onLoc, onStr, onLst, onInt, onTup, onList, onB, Bin, small, goOn, retOf, turnEnd, List.map_cons, List.map_nil, List.append_nil, List.cons_append, List.nil_append, List.replicate, List.getElem?_cons_zero, List.getElem?_cons_succ, List.set_cons_zero, List.set_cons_succ, List.length_cons, List.length_nil, List.length_append, Nat.zero_add, Nat.reduceAdd, Nat.add_zero, Split]
  refine ⟨by decide, ⟨by decide, by decide⟩, ?_⟩
  have e : (Txt.split (PySem.Str.ofString "ARRAY BEGIN BY CASE CONST DIV DO ELSE ELSIF END FOR IF IMPORT IN IS MOD MODULE NIL OF OR POINTER PROCEDURE RECORD" ++ PySem.Str.ofString " REPEAT RETURN THEN TO TYPE UNTIL VAR WHILE") (PySem.Str.ofString " ")) = kws.map PySem.Str.ofString := by decide +kernel
  rw [e, List.map_map]
  exact h
end
end Mine
end
section
set_option maxRecDepth 20000
namespace Mine
theorem bad_at : ∀ n ∈ List.range 9, ∃ c ∈ bads, Txt.item "!$@'\\_?%`" (n : Int) = sl [c] := by decide +kernel
theorem bad_item {v : Int} (h0 : 0 ≤ v) (h1 : v < 9) : ∃ c ∈ bads, Txt.item (PySem.Str.ofString "!$@'\\_?%`") v = sl [c] := by
  have := bad_at v.toNat (List.mem_range.mpr (by omega))
  rw [show ((v.toNat : Nat) : Int) = v by omega] at this
  exact this
theorem fig_hx : ∀ n ∈ List.range 16, Txt.item "0123456789ABCDEF" (n : Int) = sl [hxd n] := by decide +kernel
theorem btxt_eq : PySem.Str.ofString "\"a" ++ ⟨#[256]⟩ ++ PySem.Str.ofString "b" ++ ⟨#[1000]⟩ ++ PySem.Str.ofString "\"" = sl [34, 97, 256, 98, 1000, 34] := by decide
theorem two_le : (2 ≤ sizeLine) = True := eq_true (by decide)
theorem z_le {k : Nat} (h : k ≤ 40) : (k ≤ sizeLine) = True := eq_true (by rw [sizeLine_eq]; omega)
section
variable {G : Gl} {n : Nat} {hp : List AO} {P : AV → List AO → Prop} {i j : Nat}
theorem c_wrong (O : Ok G) (hn : 2 ≤ n) (hP : PoolAt hp i j) (h : ∀ row tail cls kind val ms hp', Drawn row tail cls kind val ms → PoolAt hp' i j → Nb j hp hp' → P (dAV row tail kind val ms) hp') : TF G n aWrong [.obj j] hp P := by
  obtain ⟨Pm, hK⟩ := O.hk
  refine (f_law_wrong hK).at O.tab 1 hn rfl ?_
  unfold ir__law_wrong
  refine sq_set ?_
  simp only [vE, vT, vA, onLoc, onStr, onLst, onInt, onTup, onList, onB, Bin, small, goOn, retOf, turnEnd, List.map_cons, List.map_nil, List.append_nil, List.cons_append, List.nil_append, List.replicate, List.getElem?_cons_zero, List.getElem?_cons_succ, List.set_cons_zero, List.set_cons_succ, List.length_cons, List.length_nil, List.length_append, Nat.zero_add, Nat.reduceAdd, Nat.add_zero]
  refine c_pick' O (by omega) (by decide) hP fun v hp1 v0 v1 P1 B1 => ?_
  refine sq_ife ?_
  simp only [vE, vT, vA, onLoc, onStr, onLst, onInt, onTup, onList, onB, Bin, small, goOn, retOf, turnEnd, List.map_cons, List.map_nil, List.append_nil, List.cons_append, List.nil_append, List.replicate, List.getElem?_cons_zero, List.getElem?_cons_succ, List.set_cons_zero, List.set_cons_succ, List.length_cons, List.length_nil, List.length_append, Nat.zero_add, Nat.reduceAdd, Nat.add_zero, Cmp]
  refine ⟨fun e => ?_, fun _ => ?_⟩
  · refine sq_ret ?_
    simp only [vE, vT, vA, onLoc, onStr, onLst, onInt, onTup, onList, onB, Bin, small, goOn, retOf, turnEnd, List.map_cons, List.map_nil, List.append_nil, List.cons_append, List.nil_append, List.replicate, List.getElem?_cons_zero, List.getElem?_cons_succ, List.set_cons_zero, List.set_cons_succ, List.length_cons, List.length_nil, List.length_append, Nat.zero_add, Nat.reduceAdd, Nat.add_zero, Cmp, Chr]
    refine ⟨fun _ => ?_, fun _ => ?_⟩
    · refine c_pick' O (by omega) (by decide) P1 fun v2 hp2 w0 w1 P2 B2 => ?_
      obtain ⟨c, hc, ei⟩ := bad_item w0 w1
      simp only [Idx, ei]
      refine ⟨⟨w0, by rw [show (PySem.Str.ofString "!$@'\\_?%`").length = 9 by decide]; exact w1, by decide⟩, ?_⟩
      exact ⟨by decide, by decide, by decide, h _ _ _ _ _ _ hp2 (.bad hc) P2 (B1.trans B2)⟩
    · exact ⟨by decide, by decide, by decide, by decide, h [233] [] _ _ _ _ hp1 (.bad (by decide)) P1 B1⟩
  refine sq_skip ?_
  simp only [vE, vT, vA, onLoc, onStr, onLst, onInt, onTup, onList, onB, Bin, small, goOn, retOf, turnEnd, List.map_cons, List.map_nil, List.append_nil, List.cons_append, List.nil_append, List.replicate, List.getElem?_cons_zero, List.getElem?_cons_succ, List.set_cons_zero, List.set_cons_succ, List.length_cons, List.length_nil, List.length_append, Nat.zero_add, Nat.reduceAdd, Nat.add_zero]
  refine sq_ife ?_
  simp only [vE, vT, vA, onLoc, onStr, onLst, onInt, onTup, onList, onB, Bin, small, goOn, retOf, turnEnd, List.map_cons, List.map_nil, List.append_nil, List.cons_append, List.nil_append, List.replicate, List.getElem?_cons_zero, List.getElem?_cons_succ, List.set_cons_zero, List.set_cons_succ, List.length_cons, List.length_nil, List.length_append, Nat.zero_add, Nat.reduceAdd, Nat.add_zero, Cmp]
  refine ⟨fun e => ?_, fun _ => ?_⟩
  · refine sq_ret ?_
    simp only [vE, vT, vA, onLoc, onStr, onLst, onInt, onTup, onList, onB, Bin, small, goOn, retOf, turnEnd, List.map_cons, List.map_nil, List.append_nil, List.cons_append, List.nil_append, List.replicate, List.getElem?_cons_zero, List.getElem?_cons_succ, List.set_cons_zero, List.set_cons_succ, List.length_cons, List.length_nil, List.length_append, Nat.zero_add, Nat.reduceAdd, Nat.add_zero, Chr]
    refine ⟨by decide, ?_⟩
    refine c_pick' O (by omega) (by decide) P1 fun v2 hp2 w0 w1 P2 B2 => idx_any w0 w1 (by decide) fun x hx => ?_
    obtain ⟨s, hs, rfl⟩ := mem_sAV (l := bchs) hx
    refine ⟨by decide, by decide, by decide, by decide, ?_⟩
    have := h _ _ _ _ _ _ hp2 (.bch hs) P2 (B1.trans B2)
    rw [dAV, List.append_nil] at this
    exact this
  refine sq_skip ?_
  simp only [vE, vT, vA, onLoc, onStr, onLst, onInt, onTup, onList, onB, Bin, small, goOn, retOf, turnEnd, List.map_cons, List.map_nil, List.append_nil, List.cons_append, List.nil_append, List.replicate, List.getElem?_cons_zero, List.getElem?_cons_succ, List.set_cons_zero, List.set_cons_succ, List.length_cons, List.length_nil, List.length_append, Nat.zero_add, Nat.reduceAdd, Nat.add_zero]
  refine sq_ife ?_
  simp only [vE, vT, vA, onLoc, onStr, onLst, onInt, onTup, onList, onB, Bin, small, goOn, retOf, turnEnd, List.map_cons, List.map_nil, List.append_nil, List.cons_append, List.nil_append, List.replicate, List.getElem?_cons_zero, List.getElem?_cons_succ, List.set_cons_zero, List.set_cons_succ, List.length_cons, List.length_nil, List.length_append, Nat.zero_add, Nat.reduceAdd, Nat.add_zero, Cmp]
  refine ⟨fun e => ?_, fun _ => ?_⟩
  · refine sq_set ?_
    simp only [vE, vT, vA, onLoc, onStr, onLst, onInt, onTup, onList, onB, Bin, small, goOn, retOf, turnEnd, List.map_cons, List.map_nil, List.append_nil, List.cons_append, List.nil_append, List.replicate, List.getElem?_cons_zero, List.getElem?_cons_succ, List.set_cons_zero, List.set_cons_succ, List.length_cons, List.length_nil, List.length_append, Nat.zero_add, Nat.reduceAdd, Nat.add_zero]
    refine ⟨by decide, ?_⟩
    refine c_pick' O (by omega) (by decide) P1 fun v2 hp2 w0 w1 P2 B2 => idx_any w0 w1 (by decide) fun x hx => ?_
    obtain ⟨s, hs, rfl⟩ := mem_sAV (l := bigs) hx
    refine sq_ret ?_
    simp only [vE, vT, vA, onLoc, onStr, onLst, onInt, onTup, onList, onB, Bin, small, goOn, retOf, turnEnd, List.map_cons, List.map_nil, List.append_nil, List.cons_append, List.nil_append, List.replicate, List.getElem?_cons_zero, List.getElem?_cons_succ, List.set_cons_zero, List.set_cons_succ, List.length_cons, List.length_nil, List.length_append, Nat.zero_add, Nat.reduceAdd, Nat.add_zero]
    refine ⟨by decide, by decide, by decide, ?_⟩
    have := h _ _ _ _ _ _ hp2 (.big hs) P2 (B1.trans B2)
    rw [dAV, List.append_nil] at this
    exact this
  refine sq_skip ?_
  simp only [vE, vT, vA, onLoc, onStr, onLst, onInt, onTup, onList, onB, Bin, small, goOn, retOf, turnEnd, List.map_cons, List.map_nil, List.append_nil, List.cons_append, List.nil_append, List.replicate, List.getElem?_cons_zero, List.getElem?_cons_succ, List.set_cons_zero, List.set_cons_succ, List.length_cons, List.length_nil, List.length_append, Nat.zero_add, Nat.reduceAdd, Nat.add_zero]
  refine sq_ife ?_
  simp only [vE, vT, vA, onLoc, onStr, onLst, onInt, onTup, onList, onB, Bin, small, goOn, retOf, turnEnd, List.map_cons, List.map_nil, List.append_nil, List.cons_append, List.nil_append, List.replicate, List.getElem?_cons_zero, List.getElem?_cons_succ, List.set_cons_zero, List.set_cons_succ, List.length_cons, List.length_nil, List.length_append, Nat.zero_add, Nat.reduceAdd, Nat.add_zero, Cmp]
  refine ⟨fun e => ?_, fun _ => ?_⟩
  · refine sq_set ?_
    simp only [vE, vT, vA, onLoc, onStr, onLst, onInt, onTup, onList, onB, Bin, small, goOn, retOf, turnEnd, List.map_cons, List.map_nil, List.append_nil, List.cons_append, List.nil_append, List.replicate, List.getElem?_cons_zero, List.getElem?_cons_succ, List.set_cons_zero, List.set_cons_succ, List.length_cons, List.length_nil, List.length_append, Nat.zero_add, Nat.reduceAdd, Nat.add_zero]
    refine ⟨by decide, ?_⟩
    refine c_pick' O (by omega) (by decide) P1 fun v2 hp2 w0 w1 P2 B2 => idx_any w0 w1 (by decide) fun x hx => ?_
    obtain ⟨s, hs, rfl⟩ := mem_sAV (l := reals) hx
    refine sq_ret ?_
    simp only [vE, vT, vA, onLoc, onStr, onLst, onInt, onTup, onList, onB, Bin, small, goOn, retOf, turnEnd, List.map_cons, List.map_nil, List.append_nil, List.cons_append, List.nil_append, List.replicate, List.getElem?_cons_zero, List.getElem?_cons_succ, List.set_cons_zero, List.set_cons_succ, List.length_cons, List.length_nil, List.length_append, Nat.zero_add, Nat.reduceAdd, Nat.add_zero]
    refine ⟨by decide, by decide, by decide, ?_⟩
    have := h _ _ _ _ _ _ hp2 (.real hs) P2 (B1.trans B2)
    rw [dAV, List.append_nil] at this
    exact this
  refine sq_skip ?_
  simp only [vE, vT, vA, onLoc, onStr, onLst, onInt, onTup, onList, onB, Bin, small, goOn, retOf, turnEnd, List.map_cons, List.map_nil, List.append_nil, List.cons_append, List.nil_append, List.replicate, List.getElem?_cons_zero, List.getElem?_cons_succ, List.set_cons_zero, List.set_cons_succ, List.length_cons, List.length_nil, List.length_append, Nat.zero_add, Nat.reduceAdd, Nat.add_zero]
  refine sq_ife ?_
  simp only [vE, vT, vA, onLoc, onStr, onLst, onInt, onTup, onList, onB, Bin, small, goOn, retOf, turnEnd, List.map_cons, List.map_nil, List.append_nil, List.cons_append, List.nil_append, List.replicate, List.getElem?_cons_zero, List.getElem?_cons_succ, List.set_cons_zero, List.set_cons_succ, List.length_cons, List.length_nil, List.length_append, Nat.zero_add, Nat.reduceAdd, Nat.add_zero, Cmp]
  refine ⟨fun e => ?_, fun _ => ?_⟩
  · refine sq_ret ?_
    simp only [vE, vT, vA, onLoc, onStr, onLst, onInt, onTup, onList, onB, Bin, small, goOn, retOf, turnEnd, List.map_cons, List.map_nil, List.append_nil, List.cons_append, List.nil_append, List.replicate, List.getElem?_cons_zero, List.getElem?_cons_succ, List.set_cons_zero, List.set_cons_succ, List.length_cons, List.length_nil, List.length_append, Nat.zero_add, Nat.reduceAdd, Nat.add_zero, Chr]
    have e1 := h _ _ _ _ _ _ hp1 .btxt P1 B1
    refine ⟨by decide, by decide, by decide, by decide, by decide, by decide, by decide, by decide, by decide, by decide, ?_⟩
    rw [show (256 : Int).toNat = 256 from rfl, show (1000 : Int).toNat = 1000 from rfl, btxt_eq]
    exact e1
  · refine sq_skip ?_
    simp only [vE, vT, vA, onLoc, onStr, onLst, onInt, onTup, onList, onB, Bin, small, goOn, retOf, turnEnd, List.map_cons, List.map_nil, List.append_nil, List.cons_append, List.nil_append, List.replicate, List.getElem?_cons_zero, List.getElem?_cons_succ, List.set_cons_zero, List.set_cons_succ, List.length_cons, List.length_nil, List.length_append, Nat.zero_add, Nat.reduceAdd, Nat.add_zero]
    refine sq_ret ?_
    simp only [vE, vT, vA, onLoc, onStr, onLst, onInt, onTup, onList, onB, Bin, small, goOn, retOf, turnEnd, List.map_cons, List.map_nil, List.append_nil, List.cons_append, List.nil_append, List.replicate, List.getElem?_cons_zero, List.getElem?_cons_succ, List.set_cons_zero, List.set_cons_succ, List.length_cons, List.length_nil, List.length_append, Nat.zero_add, Nat.reduceAdd, Nat.add_zero]
    have e1 := h _ _ _ _ _ _ hp1 .utxt P1 B1
    refine ⟨by decide, by decide, by decide, ?_⟩
    rw [show PySem.Str.ofString "\"a (* b\n" = sl ([34, 97, 32, 40, 42, 32, 98] ++ [10]) by decide, show PySem.Str.ofString "a (* b" = sl [97, 32, 40, 42, 32, 98] by decide]
    exact e1
end
end Mine
end
section
set_option maxRecDepth 20000
namespace Mine
theorem dAV_nil {row : List Nat} {kind : Option Str} {val : AV} {ms : List (Str × Nat)} : dAV row [] kind val ms = .tup [.str (sl row), kAV kind, val, .lst (mAV ms)] := by rw [dAV, List.append_nil]
theorem sgn_eq : (Txt.split (PySem.Str.ofString ":= <= >= .. + - * / ~ & . , ; | ( [ { ^ = # < > : ) ] }") (PySem.Str.ofString " ")).map AV.str = sAV sgns := by
  have e : Txt.split (PySem.Str.ofString ":= <= >= .. + - * / ~ & . , ; | ( [ { ^ = # < > : ) ] }") (PySem.Str.ofString " ") = sgns.map PySem.Str.ofString := by decide +kernel
  rw [e, List.map_map]; rfl
noncomputable def numAV : List AV := nums.map fun x => .tup [.str (PySem.Str.ofString x.1), .int x.2]
noncomputable def txtAV : List AV := txts.map fun v => .str (sl v)
theorem txt_eq : [AV.str (PySem.Str.ofString ""), .str (PySem.Str.ofString "a"), .str (PySem.Str.ofString "it's (* no *) remark"), .str (PySem.Str.ofString "\t!" ++ ⟨#[255]⟩), .str (PySem.Str.ofString "41X")] = txtAV := by
  simp only [txtAV, txts, List.map_cons, List.map_nil, sl_cd]
  rw [show sl (cd "\t!" ++ [255]) = PySem.Str.ofString "\t!" ++ ⟨#[255]⟩ by decide]
theorem txt_len : ∀ v ∈ txts, v.length ≤ 30 := by decide
theorem quo_eq (v : List Nat) : PySem.Str.ofString "\"" ++ sl v ++ PySem.Str.ofString "\"" = sl (34 :: (v ++ [34])) := by
  rw [show PySem.Str.ofString "\"" = sl [34] by decide, sl_append, sl_append]
  rfl
theorem fdiv16 (k : Nat) : Int.fdiv (k : Int) 16 = ((k / 16 : Nat) : Int) := by
  rw [Int.fdiv_eq_ediv_of_nonneg _ (by decide)]; rfl
theorem fmod16 (k : Nat) : Int.fmod (k : Int) 16 = ((k % 16 : Nat) : Int) := by
  rw [Int.fmod_eq_emod_of_nonneg _ (by decide)]; rfl
theorem no_pylong16 (x : Int) : Builtin.divisionGoesByPylong x 16 = false := by
  unfold Builtin.divisionGoesByPylong
  have : decide ((if ((16 : Int) == 0) = true then 0 else (16 : Int).natAbs.log2 / 30 + 1) > 300) = false := by decide +kernel
  simp only [this, Bool.false_and]
section
variable {G : Gl} {n : Nat} {hp : List AO} {P : AV → List AO → Prop} {i j : Nat}
theorem c_tok (O : Ok G) (hn : 3 ≤ n) (hP : PoolAt hp i j) (h : ∀ row tail cls kind val ms hp', Drawn row tail cls kind val ms → PoolAt hp' i j → Nb j hp hp' → P (dAV row tail kind val ms) hp') : TF G n aTok [.obj j] hp P := by
  obtain ⟨Pm, hK⟩ := O.hk
  refine (f_law_token hK).at O.tab 2 hn rfl ?_
  unfold ir__law_token
  refine sq_set ?_
  simp only [vE, vT, vA, onLoc, onStr, onLst, onInt, onTup, onList, onB, Bin, small, goOn, retOf, turnEnd, List.map_cons, List.map_nil, List.append_nil, List.cons_append, List.nil_append, List.replicate, List.getElem?_cons_zero, List.getElem?_cons_succ, List.set_cons_zero, List.set_cons_succ, List.length_cons, List.length_nil, List.length_append, Nat.zero_add, Nat.reduceAdd, Nat.add_zero]
  refine c_pick' O (by omega) (by decide) hP fun v hp1 v0 v1 P1 B1 => ?_
  refine sq_ife ?_
  simp only [vE, vT, vA, onLoc, onStr, onLst, onInt, onTup, onList, onB, Bin, small, goOn, retOf, turnEnd, List.map_cons, List.map_nil, List.append_nil, List.cons_append, List.nil_append, List.replicate, List.getElem?_cons_zero, List.getElem?_cons_succ, List.set_cons_zero, List.set_cons_succ, List.length_cons, List.length_nil, List.length_append, Nat.zero_add, Nat.reduceAdd, Nat.add_zero, Cmp]
  refine ⟨fun e => ?_, fun _ => ?_⟩
  · refine sq_set ?_
    simp only [vE, vT, vA, onLoc, onStr, onLst, onInt, onTup, onList, onB, Bin, small, goOn, retOf, turnEnd, List.map_cons, List.map_nil, List.append_nil, List.cons_append, List.nil_append, List.replicate, List.getElem?_cons_zero, List.getElem?_cons_succ, List.set_cons_zero, List.set_cons_succ, List.length_cons, List.length_nil, List.length_append, Nat.zero_add, Nat.reduceAdd, Nat.add_zero]
    refine ⟨by decide, ?_⟩
    refine c_pick' O (by omega) (by decide) P1 fun v2 hp2 w0 w1 P2 B2 => idx_any w0 w1 (by decide) fun x hx => ?_
    obtain ⟨s, hs, rfl⟩ := mem_sAV (l := idents) hx
    refine sq_ret ?_
    simp only [vE, vT, vA, onLoc, onStr, onLst, onInt, onTup, onList, onB, Bin, small, goOn, retOf, turnEnd, List.map_cons, List.map_nil, List.append_nil, List.cons_append, List.nil_append, List.replicate, List.getElem?_cons_zero, List.getElem?_cons_succ, List.set_cons_zero, List.set_cons_succ, List.length_cons, List.length_nil, List.length_append, Nat.zero_add, Nat.reduceAdd, Nat.add_zero]
    refine ⟨by decide, by decide, ?_⟩
    have := h _ _ _ _ _ _ hp2 (.ident hs) P2 (B1.trans B2)
    rw [dAV_nil] at this
    exact this
  refine sq_skip ?_
  simp only [vE, vT, vA, onLoc, onStr, onLst, onInt, onTup, onList, onB, Bin, small, goOn, retOf, turnEnd, List.map_cons, List.map_nil, List.append_nil, List.cons_append, List.nil_append, List.replicate, List.getElem?_cons_zero, List.getElem?_cons_succ, List.set_cons_zero, List.set_cons_succ, List.length_cons, List.length_nil, List.length_append, Nat.zero_add, Nat.reduceAdd, Nat.add_zero]
  refine sq_ife ?_
  simp only [vE, vT, vA, onLoc, onStr, onLst, onInt, onTup, onList, onB, Bin, small, goOn, retOf, turnEnd, List.map_cons, List.map_nil, List.append_nil, List.cons_append, List.nil_append, List.replicate, List.getElem?_cons_zero, List.getElem?_cons_succ, List.set_cons_zero, List.set_cons_succ, List.length_cons, List.length_nil, List.length_append, Nat.zero_add, Nat.reduceAdd, Nat.add_zero, Cmp]
  refine ⟨fun e => ?_, fun _ => ?_⟩
  · refine sq_set ?_
    simp only [vE, vT, vA, onLoc, onStr, onLst, onInt, onTup, onList, onB, Bin, small, goOn, retOf, turnEnd, List.map_cons, List.map_nil, List.append_nil, List.cons_append, List.nil_append, List.replicate, List.getElem?_cons_zero, List.getElem?_cons_succ, List.set_cons_zero, List.set_cons_succ, List.length_cons, List.length_nil, List.length_append, Nat.zero_add, Nat.reduceAdd, Nat.add_zero]
    refine c_words O (by omega) ?_
    refine sq_set ?_
    simp only [vE, vT, vA, onLoc, onStr, onLst, onInt, onTup, onList, onB, Bin, small, goOn, retOf, turnEnd, List.map_cons, List.map_nil, List.append_nil, List.cons_append, List.nil_append, List.replicate, List.getElem?_cons_zero, List.getElem?_cons_succ, List.set_cons_zero, List.set_cons_succ, List.length_cons, List.length_nil, List.length_append, Nat.zero_add, Nat.reduceAdd, Nat.add_zero, Len, seqOf]
    refine ⟨by decide, ?_⟩
    refine c_pick' O (by omega) (by decide) P1 fun v2 hp2 w0 w1 P2 B2 => idx_any w0 w1 (by decide) fun x hx => ?_
    obtain ⟨s, hs, rfl⟩ := mem_sAV (l := kws) hx
    refine sq_ret ?_
    simp only [vE, vT, vA, onLoc, onStr, onLst, onInt, onTup, onList, onB, Bin, small, goOn, retOf, turnEnd, List.map_cons, List.map_nil, List.append_nil, List.cons_append, List.nil_append, List.replicate, List.getElem?_cons_zero, List.getElem?_cons_succ, List.set_cons_zero, List.set_cons_succ, List.length_cons, List.length_nil, List.length_append, Nat.zero_add, Nat.reduceAdd, Nat.add_zero]
    refine ⟨by decide, by decide, ?_⟩
    have := h _ _ _ _ _ _ hp2 (.word hs) P2 (B1.trans B2)
    rw [dAV_nil] at this
    exact this
  refine sq_skip ?_
  simp only [vE, vT, vA, onLoc, onStr, onLst, onInt, onTup, onList, onB, Bin, small, goOn, retOf, turnEnd, List.map_cons, List.map_nil, List.append_nil, List.cons_append, List.nil_append, List.replicate, List.getElem?_cons_zero, List.getElem?_cons_succ, List.set_cons_zero, List.set_cons_succ, List.length_cons, List.length_nil, List.length_append, Nat.zero_add, Nat.reduceAdd, Nat.add_zero]
  refine sq_ife ?_
  simp only [vE, vT, vA, onLoc, onStr, onLst, onInt, onTup, onList, onB, Bin, small, goOn, retOf, turnEnd, List.map_cons, List.map_nil, List.append_nil, List.cons_append, List.nil_append, List.replicate, List.getElem?_cons_zero, List.getElem?_cons_succ, List.set_cons_zero, List.set_cons_succ, List.length_cons, List.length_nil, List.length_append, Nat.zero_add, Nat.reduceAdd, Nat.add_zero, Cmp]
  refine ⟨fun e => ?_, fun _ => ?_⟩
  · refine sq_many ?_
    simp only [vE, vT, vA, onLoc, onStr, onLst, onInt, onTup, onList, onB, Bin, small, goOn, retOf, turnEnd, List.map_cons, List.map_nil, List.append_nil, List.cons_append, List.nil_append, List.replicate, List.getElem?_cons_zero, List.getElem?_cons_succ, List.set_cons_zero, List.set_cons_succ, List.length_cons, List.length_nil, List.length_append, Nat.zero_add, Nat.reduceAdd, Nat.add_zero, Neg]
    refine ⟨by decide, by decide, by decide, by decide, by decide, by decide, by decide, by decide, ?_⟩
    refine c_pick' O (by omega) (by decide) P1 fun v2 hp2 w0 w1 P2 B2 => idx_any w0 w1 (by decide) fun x hx => ?_
    obtain ⟨⟨s, k⟩, hs, rfl⟩ := List.mem_map.mp (show x ∈ numAV from hx)
    simp only [vE, vT, vA, onLoc, onStr, onLst, onInt, onTup, onList, onB, Bin, small, goOn, retOf, turnEnd, List.map_cons, List.map_nil, List.append_nil, List.cons_append, List.nil_append, List.replicate, List.getElem?_cons_zero, List.getElem?_cons_succ, List.set_cons_zero, List.set_cons_succ, List.length_cons, List.length_nil, List.length_append, Nat.zero_add, Nat.reduceAdd, Nat.add_zero, setMany]
    refine ⟨trivial, ?_⟩
    refine sq_ret ?_
    simp only [vE, vT, vA, onLoc, onStr, onLst, onInt, onTup, onList, onB, Bin, small, goOn, retOf, turnEnd, List.map_cons, List.map_nil, List.append_nil, List.cons_append, List.nil_append, List.replicate, List.getElem?_cons_zero, List.getElem?_cons_succ, List.set_cons_zero, List.set_cons_succ, List.length_cons, List.length_nil, List.length_append, Nat.zero_add, Nat.reduceAdd, Nat.add_zero]
    refine ⟨by decide, by decide, ?_⟩
    have := h _ _ _ _ _ _ hp2 (.num hs) P2 (B1.trans B2)
    rw [dAV_nil, sl_cd] at this
    exact this
  refine sq_skip ?_
  simp only [vE, vT, vA, onLoc, onStr, onLst, onInt, onTup, onList, onB, Bin, small, goOn, retOf, turnEnd, List.map_cons, List.map_nil, List.append_nil, List.cons_append, List.nil_append, List.replicate, List.getElem?_cons_zero, List.getElem?_cons_succ, List.set_cons_zero, List.set_cons_succ, List.length_cons, List.length_nil, List.length_append, Nat.zero_add, Nat.reduceAdd, Nat.add_zero]
  refine sq_ife ?_
  simp only [vE, vT, vA, onLoc, onStr, onLst, onInt, onTup, onList, onB, Bin, small, goOn, retOf, turnEnd, List.map_cons, List.map_nil, List.append_nil, List.cons_append, List.nil_append, List.replicate, List.getElem?_cons_zero, List.getElem?_cons_succ, List.set_cons_zero, List.set_cons_succ, List.length_cons, List.length_nil, List.length_append, Nat.zero_add, Nat.reduceAdd, Nat.add_zero, Cmp]
  refine ⟨fun e => ?_, fun _ => ?_⟩
  · refine sq_set ?_
    simp only [vE, vT, vA, onLoc, onStr, onLst, onInt, onTup, onList, onB, Bin, small, goOn, retOf, turnEnd, List.map_cons, List.map_nil, List.append_nil, List.cons_append, List.nil_append, List.replicate, List.getElem?_cons_zero, List.getElem?_cons_succ, List.set_cons_zero, List.set_cons_succ, List.length_cons, List.length_nil, List.length_append, Nat.zero_add, Nat.reduceAdd, Nat.add_zero, Chr]
    refine ⟨by decide, by decide, by decide, ?_⟩
    rw [show (255 : Int).toNat = 255 from rfl, txt_eq]
    refine c_pick' O (by omega) (by decide) P1 fun v2 hp2 w0 w1 P2 B2 => idx_any w0 w1 (by decide) fun x hx => ?_
    obtain ⟨u, hu, rfl⟩ := List.mem_map.mp hx
    have hul := txt_len u hu
    refine sq_ret ?_
    simp only [vE, vT, vA, onLoc, onStr, onLst, onInt, onTup, onList, onB, Bin, small, goOn, retOf, turnEnd, List.map_cons, List.map_nil, List.append_nil, List.cons_append, List.nil_append, List.replicate, List.getElem?_cons_zero, List.getElem?_cons_succ, List.set_cons_zero, List.set_cons_succ, List.length_cons, List.length_nil, List.length_append, Nat.zero_add, Nat.reduceAdd, Nat.add_zero]
    rw [quo_eq]
    refine ⟨?_, ?_, by decide, by decide, ?_⟩
    · rw [sl_length, sizeLine_eq, show (PySem.Str.ofString "\"").length = 1 by decide]; omega
    · rw [show PySem.Str.ofString "\"" ++ sl u = sl (34 :: u) by rw [show PySem.Str.ofString "\"" = sl [34] by decide, sl_append]; rfl, sl_length, sizeLine_eq, show (PySem.Str.ofString "\"").length = 1 by decide]; simp; omega
    have := h _ _ _ _ _ _ hp2 (.text hu) P2 (B1.trans B2)
    rw [dAV_nil] at this
    exact this
  refine sq_skip ?_
  simp only [vE, vT, vA, onLoc, onStr, onLst, onInt, onTup, onList, onB, Bin, small, goOn, retOf, turnEnd, List.map_cons, List.map_nil, List.append_nil, List.cons_append, List.nil_append, List.replicate, List.getElem?_cons_zero, List.getElem?_cons_succ, List.set_cons_zero, List.set_cons_succ, List.length_cons, List.length_nil, List.length_append, Nat.zero_add, Nat.reduceAdd, Nat.add_zero]
  refine sq_ife ?_
  simp only [vE, vT, vA, onLoc, onStr, onLst, onInt, onTup, onList, onB, Bin, small, goOn, retOf, turnEnd, List.map_cons, List.map_nil, List.append_nil, List.cons_append, List.nil_append, List.replicate, List.getElem?_cons_zero, List.getElem?_cons_succ, List.set_cons_zero, List.set_cons_succ, List.length_cons, List.length_nil, List.length_append, Nat.zero_add, Nat.reduceAdd, Nat.add_zero, Cmp]
  refine ⟨fun e => ?_, fun _ => ?_⟩
  · refine sq_set ?_
    simp only [vE, vT, vA, onLoc, onStr, onLst, onInt, onTup, onList, onB, Bin, small, goOn, retOf, turnEnd, List.map_cons, List.map_nil, List.append_nil, List.cons_append, List.nil_append, List.replicate, List.getElem?_cons_zero, List.getElem?_cons_succ, List.set_cons_zero, List.set_cons_succ, List.length_cons, List.length_nil, List.length_append, Nat.zero_add, Nat.reduceAdd, Nat.add_zero]
    refine c_pick' O (by omega) (by decide) P1 fun v2 hp2 w0 w1 P2 B2 => ?_
    obtain ⟨k, rfl⟩ : ∃ k : Nat, v2 = (k : Int) := ⟨v2.toNat, by omega⟩
    refine sq_set ?_
    simp only [vE, vT, vA, onLoc, onStr, onLst, onInt, onTup, onList, onB, Bin, small, goOn, retOf, turnEnd, List.map_cons, List.map_nil, List.append_nil, List.cons_append, List.nil_append, List.replicate, List.getElem?_cons_zero, List.getElem?_cons_succ, List.set_cons_zero, List.set_cons_succ, List.length_cons, List.length_nil, List.length_append, Nat.zero_add, Nat.reduceAdd, Nat.add_zero]
    refine sq_ret ?_
    simp only [vE, vT, vA, onLoc, onStr, onLst, onInt, onTup, onList, onB, Bin, small, goOn, retOf, turnEnd, List.map_cons, List.map_nil, List.append_nil, List.cons_append, List.nil_append, List.replicate, List.getElem?_cons_zero, List.getElem?_cons_succ, List.set_cons_zero, List.set_cons_succ, List.length_cons, List.length_nil, List.length_append, Nat.zero_add, Nat.reduceAdd, Nat.add_zero, Chr, fdiv16, fmod16, Idx]
    have hf : (PySem.Str.ofString "0123456789ABCDEF").length = 16 := by decide
    have e1 := fig_hx (k / 16) (List.mem_range.mpr (by omega))
    have e2 := fig_hx (k % 16) (List.mem_range.mpr (by omega))
    rw [hf, e1, e2]
    have ea : PySem.Str.ofString "0" ++ sl [hxd (k / 16)] = sl [48, hxd (k / 16)] := by rw [show PySem.Str.ofString "0" = sl [48] by decide, sl_append]; rfl
    have eb : sl [48, hxd (k / 16)] ++ sl [hxd (k % 16)] = sl [48, hxd (k / 16), hxd (k % 16)] := by rw [sl_append]; rfl
    have ec : sl [48, hxd (k / 16), hxd (k % 16)] ++ PySem.Str.ofString "X" = sl [48, hxd (k / 16), hxd (k % 16), 88] := by rw [show PySem.Str.ofString "X" = sl [88] by decide, sl_append]; rfl
    rw [ea, eb, ec]
    simp only [sl_length, show (PySem.Str.ofString "0").length = 1 by decide, show (PySem.Str.ofString "X").length = 1 by decide, List.length_cons, List.length_nil]
    refine ⟨⟨by decide, no_pylong16 _⟩, ⟨by omega, by omega, by decide⟩, by decide, by decide, ⟨by omega, by omega, by decide⟩, by decide, by decide, ⟨by omega, by omega⟩, by decide, by decide, ?_⟩
    have := h _ _ _ _ _ _ hp2 (.chr (k := k) (by omega)) P2 (B1.trans B2)
    rw [dAV_nil] at this
    exact this
  refine sq_skip ?_
  simp only [vE, vT, vA, onLoc, onStr, onLst, onInt, onTup, onList, onB, Bin, small, goOn, retOf, turnEnd, List.map_cons, List.map_nil, List.append_nil, List.cons_append, List.nil_append, List.replicate, List.getElem?_cons_zero, List.getElem?_cons_succ, List.set_cons_zero, List.set_cons_succ, List.length_cons, List.length_nil, List.length_append, Nat.zero_add, Nat.reduceAdd, Nat.add_zero]
  have tail : ∀ hp2, PoolAt hp2 i j → Nb j hp hp2 → vS G 2 ((.seq (.set 8 (.split (.str ":= <= >= .. + - * / ~ & . , ; | ( [ { ^ = # < > : ) ] }") (.str " ")))
  (.seq (.set 4 (.idx (.loc 8) (.call aPick (.cons (.loc 0) (.cons (.len (.loc 8)) .nil)))))
  (.seq (.ret (.tup (.cons (.loc 4) (.cons (.loc 4) (.cons (.str "") (.cons (.lst .nil) .nil))))))
  .skip)))) ⟨[some (.obj j), some (.int v), none, none, none, none, none, none, none, none, none, none, none, none], hp2⟩ (fun fl st => P (retOf fl) st.heap) := by
    intro hp2 P2 B2
    refine sq_set ?_
    simp only [vE, vT, vA, onLoc, onStr, onLst, onInt, onTup, onList, onB, Bin, small, goOn, retOf, turnEnd, List.map_cons, List.map_nil, List.append_nil, List.cons_append, List.nil_append, List.replicate, List.getElem?_cons_zero, List.getElem?_cons_succ, List.set_cons_zero, List.set_cons_succ, List.length_cons, List.length_nil, List.length_append, Nat.zero_add, Nat.reduceAdd, Nat.add_zero, Split]
    rw [sgn_eq]
    refine ⟨⟨by decide, by decide⟩, ?_⟩
    refine sq_set ?_
    simp only [vE, vT, vA, onLoc, onStr, onLst, onInt, onTup, onList, onB, Bin, small, goOn, retOf, turnEnd, List.map_cons, List.map_nil, List.append_nil, List.cons_append, List.nil_append, List.replicate, List.getElem?_cons_zero, List.getElem?_cons_succ, List.set_cons_zero, List.set_cons_succ, List.length_cons, List.length_nil, List.length_append, Nat.zero_add, Nat.reduceAdd, Nat.add_zero, Len, seqOf]
    refine ⟨by decide, ?_⟩
    refine c_pick' O (by omega) (by decide) P2 fun v2 hp3 w0 w1 P3 B3 => idx_any w0 w1 (by decide) fun x hx => ?_
    obtain ⟨s, hs, rfl⟩ := mem_sAV (l := sgns) hx
    refine sq_ret ?_
    simp only [vE, vT, vA, onLoc, onStr, onLst, onInt, onTup, onList, onB, Bin, small, goOn, retOf, turnEnd, List.map_cons, List.map_nil, List.append_nil, List.cons_append, List.nil_append, List.replicate, List.getElem?_cons_zero, List.getElem?_cons_succ, List.set_cons_zero, List.set_cons_succ, List.length_cons, List.length_nil, List.length_append, Nat.zero_add, Nat.reduceAdd, Nat.add_zero]
    refine ⟨by decide, by decide, ?_⟩
    have := h _ _ _ _ _ _ hp3 (.sgn hs) P3 (B2.trans B3)
    rw [dAV_nil] at this
    exact this
  refine sq_ife ?_
  simp only [vE, vT, vA, onLoc, onStr, onLst, onInt, onTup, onList, onB, Bin, small, goOn, retOf, turnEnd, List.map_cons, List.map_nil, List.append_nil, List.cons_append, List.nil_append, List.replicate, List.getElem?_cons_zero, List.getElem?_cons_succ, List.set_cons_zero, List.set_cons_succ, List.length_cons, List.length_nil, List.length_append, Nat.zero_add, Nat.reduceAdd, Nat.add_zero, Cmp]
  refine ⟨fun _ => ?_, fun _ => ?_⟩
  · refine c_pick' O (by omega) (by decide) P1 fun v2 hp2 w0 w1 P2 B2 => ?_
    refine ⟨fun _ => ?_, fun _ => ?_⟩
    · refine sq_ret ?_
      simp only [vE, vT, vA, onLoc, onStr, onLst, onInt, onTup, onList, onB, Bin, small, goOn, retOf, turnEnd, List.map_cons, List.map_nil, List.append_nil, List.cons_append, List.nil_append, List.replicate, List.getElem?_cons_zero, List.getElem?_cons_succ, List.set_cons_zero, List.set_cons_succ, List.length_cons, List.length_nil, List.length_append, Nat.zero_add, Nat.reduceAdd, Nat.add_zero]
      exact c_wrong O (by omega) P2 fun row tail cls kind val ms hp3 D P3 B3 => h row tail cls kind val ms hp3 D P3 ((B1.trans B2).trans B3)
    · refine sq_skip ?_
      exact tail hp2 P2 (B1.trans B2)
  · refine fork_f ?_
    refine sq_skip ?_
    exact tail hp1 P1 B1
end
noncomputable def pcs : List (List Nat) := [[32], [10], [9], [13, 10], cd "(* a *)", cd "(*(*) b *)*)", cd "(* (* c *) d \" *)", [1]]
noncomputable def pc3 : List AV := ([[32], [10], [9]] : List (List Nat)).map fun p => .str (sl p)
noncomputable def pc6 : List AV := ([[32], [13, 10], cd "(* a *)", cd "(*(*) b *)*)", cd "(* (* c *) d \" *)", [1]] : List (List Nat)).map fun p => .str (sl p)
theorem pc3_eq : [AV.str (PySem.Str.ofString " "), .str (PySem.Str.ofString "\n"), .str (PySem.Str.ofString "\t")] = pc3 := by
  simp only [pc3, List.map_cons, List.map_nil]
  rw [show PySem.Str.ofString " " = sl [32] by decide, show PySem.Str.ofString "\n" = sl [10] by decide, show PySem.Str.ofString "\t" = sl [9] by decide]
theorem pc6_eq : [AV.str (PySem.Str.ofString " "), .str (PySem.Str.ofString "\r\n"), .str (PySem.Str.ofString "(* a *)"), .str (PySem.Str.ofString "(*(*) b *)*)"), .str (PySem.Str.ofString "(* (* c *) d \" *)"), .str ⟨#[1]⟩] = pc6 := by
  simp only [pc6, List.map_cons, List.map_nil, sl_cd]
  rw [show PySem.Str.ofString " " = sl [32] by decide, show PySem.Str.ofString "\r\n" = sl [13, 10] by decide]
  rfl
theorem pc3_mem {x : AV} (h : x ∈ pc3) : ∃ p ∈ pcs, p.length ≤ 20 ∧ x = .str (sl p) := by
  obtain ⟨p, hp, rfl⟩ := List.mem_map.mp h
  have : ∀ p ∈ ([[32], [10], [9]] : List (List Nat)), p ∈ pcs ∧ p.length ≤ 20 := by decide
  exact ⟨p, (this p hp).1, (this p hp).2, rfl⟩
theorem pc6_mem {x : AV} (h : x ∈ pc6) : ∃ p ∈ pcs, p.length ≤ 20 ∧ x = .str (sl p) := by
  obtain ⟨p, hp, rfl⟩ := List.mem_map.mp h
  have : ∀ p ∈ ([[32], [13, 10], cd "(* a *)", cd "(*(*) b *)*)", cd "(* (* c *) d \" *)", [1]] : List (List Nat)), p ∈ pcs ∧ p.length ≤ 20 := by decide
  exact ⟨p, (this p hp).1, (this p hp).2, rfl⟩
inductive GpI (i j : Nat) (ps0 : List (List Nat)) (must : Bool) (v : Int) (hp : List AO) (k : Nat) : ASt → Prop
  | mk (ps : List (List Nat)) (hp' : List AO) (o4 : Option AV) (h1 : ∀ p ∈ ps, p ∈ pcs) (h2 : ps.length = ps0.length + k) (h3 : ps.flatten.length ≤ 20 * ps.length) (P : PoolAt hp' i j) (B : Nb j hp hp') : GpI i j ps0 must v hp k ⟨[some (.obj j), some (.bool must), some (.str (sl ps.flatten)), some (.int v), o4, none, none, none], hp'⟩
section
variable {G : Gl} {n : Nat} {hp : List AO} {P : AV → List AO → Prop} {i j : Nat}
theorem c_gap (O : Ok G) (hn : 2 ≤ n) (hP : PoolAt hp i j) {must : Bool} (h : ∀ ps hp', (∀ p ∈ ps, p ∈ pcs) → (must = true → ps ≠ []) → ps.flatten.length ≤ 60 → PoolAt hp' i j → Nb j hp hp' → P (.str (sl ps.flatten)) hp') : TF G n aGap [.obj j, .bool must] hp P := by
  obtain ⟨Pm, hK⟩ := O.hk
  refine (f_law_gap hK).at O.tab 1 hn rfl ?_
  unfold ir__law_gap
  refine sq_set ?_
  simp only [vE, vT, vA, onLoc, onStr, onLst, onInt, onTup, onList, onB, Bin, small, goOn, retOf, turnEnd, List.map_cons, List.map_nil, List.append_nil, List.cons_append, List.nil_append, List.replicate, List.getElem?_cons_zero, List.getElem?_cons_succ, List.set_cons_zero, List.set_cons_succ, List.length_cons, List.length_nil, List.length_append, Nat.zero_add, Nat.reduceAdd, Nat.add_zero]
  refine sq_set ?_
  simp only [vE, vT, vA, onLoc, onStr, onLst, onInt, onTup, onList, onB, Bin, small, goOn, retOf, turnEnd, List.map_cons, List.map_nil, List.append_nil, List.cons_append, List.nil_append, List.replicate, List.getElem?_cons_zero, List.getElem?_cons_succ, List.set_cons_zero, List.set_cons_succ, List.length_cons, List.length_nil, List.length_append, Nat.zero_add, Nat.reduceAdd, Nat.add_zero]
  refine c_pick' O (by omega) (by decide) hP fun v hp1 v0 v1 P1 B1 => ?_
  have loop : ∀ (ps0 : List (List Nat)) (hp2 : List AO), (∀ p ∈ ps0, p ∈ pcs) → ps0.length ≤ 1 → ps0.flatten.length ≤ 20 * ps0.length → (must = true → v = 0 → ps0.length = 1) → (v ≠ 0 → ps0 = []) → PoolAt hp2 i j → Nb j hp hp2 →
      vS G 1 ((.seq (.forR 4 (.loc 3) (.seq (.aug 2 .Add (.idx (.lst (.cons (.str " ") (.cons (.str "\r\n") (.cons (.str "(* a *)") (.cons (.str "(*(*) b *)*)") (.cons (.str "(* (* c *) d \" *)") (.cons (.chr (.int 1)) .nil))))))) (.call aPick (.cons (.loc 0) (.cons (.int 6) .nil)))))
  .skip))
  (.seq (.ret (.loc 2))
  .skip))) ⟨[some (.obj j), some (.bool must), some (.str (sl ps0.flatten)), some (.int v), none, none, none, none], hp2⟩ (fun fl st => P (retOf fl) st.heap) := by
    intro ps0 hp2 h1 h2 h3 h4 h5 P2 B2
    refine sq_forR ?_
    simp only [vE, vT, vA, onLoc, onStr, onLst, onInt, onTup, onList, onB, Bin, small, goOn, retOf, turnEnd, List.map_cons, List.map_nil, List.append_nil, List.cons_append, List.nil_append, List.replicate, List.getElem?_cons_zero, List.getElem?_cons_succ, List.set_cons_zero, List.set_cons_succ, List.length_cons, List.length_nil, List.length_append, Nat.zero_add, Nat.reduceAdd, Nat.add_zero]
    refine ⟨by omega, ?_⟩
    refine ⟨GpI i j ps0 must v hp, ⟨ps0, hp2, none, h1, rfl, h3, P2, B2⟩, ?_, ?_⟩
    · intro k a ha st1 hi
      obtain ⟨ps, hp3, o4, k1, k2, k3, P3, B3⟩ := hi
      have hk : k < 3 := by
        have := (List.getElem?_eq_some_iff.mp ha).1
        simp only [upItems, List.length_map, List.length_range] at this
        omega
      refine sq_aug ?_
      simp only [vE, vT, vA, onLoc, onStr, onLst, onInt, onTup, onList, onB, Bin, small, goOn, retOf, turnEnd, List.map_cons, List.map_nil, List.append_nil, List.cons_append, List.nil_append, List.replicate, List.getElem?_cons_zero, List.getElem?_cons_succ, List.set_cons_zero, List.set_cons_succ, List.length_cons, List.length_nil, List.length_append, Nat.zero_add, Nat.reduceAdd, Nat.add_zero, Chr]
      rw [show (1 : Int).toNat = 1 from rfl, pc6_eq]
      refine ⟨by decide, by decide, ?_⟩
      refine c_pick' O (by omega) (by decide) P3 fun v2 hp4 w0 w1 P4 B4 => idx_any w0 w1 (by decide) fun x hx => ?_
      obtain ⟨p, hp', hpl, rfl⟩ := pc6_mem hx
      simp only [Aug, sl_append, sl_length]
      refine ⟨by rw [sizeLine_eq]; omega, ?_⟩
      refine sq_skip ?_
      have ef : (ps ++ [p]).flatten = ps.flatten ++ p := by simp
      rw [← ef]
      refine ⟨ps ++ [p], hp4, some a, fun q hq => ?_, by simp; omega, by rw [ef, List.length_append, List.length_append, List.length_singleton]; omega, P4, B3.trans B4⟩
      rcases List.mem_append.mp hq with hq | hq
      · exact k1 q hq
      · cases List.mem_singleton.mp hq; exact hp'
    · intro st1 hi
      obtain ⟨ps, hp3, o4, k1, k2, k3, P3, B3⟩ := hi
      simp only [upItems, List.length_map, List.length_range] at k2
      simp only [vE, vT, vA, onLoc, onStr, onLst, onInt, onTup, onList, onB, Bin, small, goOn, retOf, turnEnd, List.map_cons, List.map_nil, List.append_nil, List.cons_append, List.nil_append, List.replicate, List.getElem?_cons_zero, List.getElem?_cons_succ, List.set_cons_zero, List.set_cons_succ, List.length_cons, List.length_nil, List.length_append, Nat.zero_add, Nat.reduceAdd, Nat.add_zero]
      refine sq_ret ?_
      simp only [vE, vT, vA, onLoc, onStr, onLst, onInt, onTup, onList, onB, Bin, small, goOn, retOf, turnEnd, List.map_cons, List.map_nil, List.append_nil, List.cons_append, List.nil_append, List.replicate, List.getElem?_cons_zero, List.getElem?_cons_succ, List.set_cons_zero, List.set_cons_succ, List.length_cons, List.length_nil, List.length_append, Nat.zero_add, Nat.reduceAdd, Nat.add_zero]
      refine h ps hp3 k1 (fun hm => ?_) (by omega) P3 B3
      intro hz
      rw [hz, List.length_nil] at k2
      by_cases hv : v = 0
      · have := h4 hm hv; omega
      · omega
  refine sq_ife ?_
  simp only [vE, vT, vA, onLoc, onStr, onLst, onInt, onTup, onList, onB, Bin, small, goOn, retOf, turnEnd, List.map_cons, List.map_nil, List.append_nil, List.cons_append, List.nil_append, List.replicate, List.getElem?_cons_zero, List.getElem?_cons_succ, List.set_cons_zero, List.set_cons_succ, List.length_cons, List.length_nil, List.length_append, Nat.zero_add, Nat.reduceAdd, Nat.add_zero, Cmp]
  refine ⟨fun hm => ⟨fun e => ?_, fun e => ?_⟩, fun hm => ?_⟩
  · have e := beq_iff_eq.mp e
    refine sq_set ?_
    simp only [vE, vT, vA, onLoc, onStr, onLst, onInt, onTup, onList, onB, Bin, small, goOn, retOf, turnEnd, List.map_cons, List.map_nil, List.append_nil, List.cons_append, List.nil_append, List.replicate, List.getElem?_cons_zero, List.getElem?_cons_succ, List.set_cons_zero, List.set_cons_succ, List.length_cons, List.length_nil, List.length_append, Nat.zero_add, Nat.reduceAdd, Nat.add_zero]
    rw [pc3_eq]
    refine ⟨by decide, ?_⟩
    refine c_pick' O (by omega) (by decide) P1 fun v2 hp2 w0 w1 P2 B2 => idx_any w0 w1 (by decide) fun x hx => ?_
    obtain ⟨p, hp', hpl, rfl⟩ := pc3_mem hx
    refine sq_skip ?_
    simp only [vE, vT, vA, onLoc, onStr, onLst, onInt, onTup, onList, onB, Bin, small, goOn, retOf, turnEnd, List.map_cons, List.map_nil, List.append_nil, List.cons_append, List.nil_append, List.replicate, List.getElem?_cons_zero, List.getElem?_cons_succ, List.set_cons_zero, List.set_cons_succ, List.length_cons, List.length_nil, List.length_append, Nat.zero_add, Nat.reduceAdd, Nat.add_zero]
    have e1 : [p].flatten = p := by simp
    have := loop [p] hp2 (by simpa using hp') (by simp) (by rw [e1]; simp; omega) (fun _ _ => rfl) (fun z => absurd e z) P2 (B1.trans B2)
    rw [e1] at this
    exact this
  · refine sq_skip ?_
    simp only [vE, vT, vA, onLoc, onStr, onLst, onInt, onTup, onList, onB, Bin, small, goOn, retOf, turnEnd, List.map_cons, List.map_nil, List.append_nil, List.cons_append, List.nil_append, List.replicate, List.getElem?_cons_zero, List.getElem?_cons_succ, List.set_cons_zero, List.set_cons_succ, List.length_cons, List.length_nil, List.length_append, Nat.zero_add, Nat.reduceAdd, Nat.add_zero]
    have e := beq_eq_false_iff_ne.mp e
    have := loop [] hp1 (fun _ h => nomatch h) (by simp) (by simp) (fun _ z => absurd z e) (fun _ => rfl) P1 B1
    rw [show PySem.Str.ofString "" = sl ([] : List (List Nat)).flatten by decide]
    exact this
  · refine fork_f ?_
    refine sq_skip ?_
    simp only [vE, vT, vA, onLoc, onStr, onLst, onInt, onTup, onList, onB, Bin, small, goOn, retOf, turnEnd, List.map_cons, List.map_nil, List.append_nil, List.cons_append, List.nil_append, List.replicate, List.getElem?_cons_zero, List.getElem?_cons_succ, List.set_cons_zero, List.set_cons_succ, List.length_cons, List.length_nil, List.length_append, Nat.zero_add, Nat.reduceAdd, Nat.add_zero]
    have := loop [] hp1 (fun _ h => nomatch h) (by simp) (by simp) (fun z => by rw [hm] at z; cases z) (fun _ => rfl) P1 B1
    rw [show PySem.Str.ofString "" = sl ([] : List (List Nat)).flatten by decide]
    exact this
end
end Mine
end
section
set_option maxRecDepth 20000
namespace Mine
noncomputable def adjW (o : Option Nat) : Bool := !isAl o && o != some 46
noncomputable def adjM (o : Option Nat) : Bool := o != some 61 && o != some 46 && o != some 42
set_option genInjectivity false in
structure TokSem (row rest : List Nat) (kind : Str) (val : AV) (tms : List (Str × Nat)) : Prop where
  ne : row ≠ []
  gt : ∀ c, row[0]? = some c → 32 < c
  np : ¬ ((row ++ rest)[0]? = some 40 ∧ (row ++ rest)[1]? = some 42)
  nb : isBad (row ++ rest)[0]? (row ++ rest)[1]? = false
  disp : ∀ (G : Gl) (O : Ok G) (w : Wd) (q : Nat) (rows : List AV) (ks : List Int) (hp : List AO) (P : AV → List AO → Prop), At w.x.cps.toList q (row ++ rest) → Sc w q rows ks hp → (∀ k ∈ ks, k < (q : Int)) → rows.length ≤ 900 → ks.length ≤ 900 → w.x.cps.toList.length ≤ 100000 →
    (∀ ks' hp', Sc w (q + row.length) (rows ++ tms.map fun m => mk1 (q + m.2) m.1) ks' hp' → (∀ k ∈ ks', k < ((q + row.length : Nat) : Int)) → ks'.length ≤ ks.length + tms.length + 1 → Nx w hp hp' → P (.obj hp'.length) (hp' ++ [tok (.str kind) val (q : Int)])) →
    Disp G w q (row ++ rest)[0]? (row ++ rest)[1]? rows ks hp P
theorem let_not {o : Option Nat} (h : isLet o = true) : isDig o = false ∧ o ≠ some 34 ∧ o ≠ none := by
  cases o with
  | none => cases h
  | some c =>
    refine ⟨?_, ?_, by simp⟩
    · simp only [isLet, isDig, Bool.or_eq_true, Bool.and_eq_true, decide_eq_true_eq, Bool.and_eq_false_iff, decide_eq_false_iff_not] at h ⊢
      omega
    · intro e
      cases e
      exact absurd h (by decide)
theorem dig_not {o : Option Nat} (h : isDig o = true) : isLet o = false ∧ o ≠ some 34 ∧ o ≠ none := by
  cases o with
  | none => cases h
  | some c =>
    refine ⟨?_, ?_, by simp⟩
    · simp only [isLet, isDig, Bool.or_eq_false_iff, Bool.and_eq_true, decide_eq_true_eq, Bool.and_eq_false_iff, decide_eq_false_iff_not] at h ⊢
      omega
    · intro e
      cases e
      exact absurd h (by decide)
section
variable {G : Gl} {w : Wd} {q : Nat} {a b : Option Nat} {rows : List AV} {ks : List Int} {hp : List AO} {P : AV → List AO → Prop}
theorem disp_let (h : isLet a = true) (hT : TF G 5 aWord [.obj w.i, .int q] hp P) : Disp G w q a b rows ks hp P := by
  obtain ⟨h1, h2, h3⟩ := let_not h
  exact ⟨fun z => absurd z h3, fun _ => hT, fun z => (by rw [h1] at z; cases z), fun z => absurd z h2, fun z => (by rw [h] at z; cases z)⟩
theorem disp_dig (h : isDig a = true) (hT : TF G 5 aNumeral [.obj w.i, .int q] hp P) : Disp G w q a b rows ks hp P := by
  obtain ⟨h1, h2, h3⟩ := dig_not h
  exact ⟨fun z => absurd z h3, fun z => (by rw [h1] at z; cases z), fun _ => hT, fun z => absurd z h2, fun _ z => (by rw [h] at z; cases z)⟩
end
theorem gt_of_let {c : Nat} (h : isLet (some c) = true) : 32 < c ∧ c ≠ 40 := by
  simp only [isLet, Bool.or_eq_true, Bool.and_eq_true, decide_eq_true_eq] at h
  omega
theorem gt_of_dig {c : Nat} (h : isDig (some c) = true) : 32 < c ∧ c ≠ 40 := by
  simp only [isDig, Bool.and_eq_true, decide_eq_true_eq] at h
  omega
theorem head_app {row rest : List Nat} (h : row ≠ []) : (row ++ rest)[0]? = row[0]? := by
  cases row with
  | nil => exact absurd rfl h
  | cons _ _ => rfl
theorem run_at {w : Wd} {q : Nat} {l : List Nat} {g : Nat → Bool} (h : At w.x.cps.toList q l) : run w.x g q = l.takeWhile g := by unfold run; rw [h.1]
theorem tw_none {g : Nat → Bool} {l : List Nat} (h : ∀ c, l[0]? = some c → g c = false) : l.takeWhile g = [] ∧ l.dropWhile g = l := by
  cases l with
  | nil => exact ⟨rfl, rfl⟩
  | cons c l =>
    have := h c rfl
    exact ⟨by rw [List.takeWhile_cons, this]; rfl, by rw [List.dropWhile_cons, this]; rfl⟩
theorem al_none {rest : List Nat} (h : isAl rest[0]? = false) : ∀ c, rest[0]? = some c → al c = false := fun c hc => by rw [hc] at h; exact h
theorem hexc_al : ∀ c ∈ hexc, al c = true := by decide
theorem hx_al {c : Nat} (h : hx c = true) : al c = true := hexc_al c (hx_mem h)
theorem not_hx {c : Nat} (h : al c = false) : hx c = false := by
  cases e : hx c with
  | false => rfl
  | true => rw [hx_al e] at h; cases h
theorem not_dg {c : Nat} (h : al c = false) : dg c = false := by
  cases e : dg c with
  | false => rfl
  | true => rw [hx_al (dg_hx e)] at h; cases h
theorem sem_word {row rest : List Nat} (hal : ∀ c ∈ row, al c = true) (h0 : isLet row[0]? = true) (hr : isAl rest[0]? = false) :
    TokSem row rest (if kwl.any (· == sl row) = true then sl row else "ident") (.str (if kwl.any (· == sl row) = true then "" else sl row)) [] := by
  have hne : row ≠ [] := by intro e; rw [e] at h0; cases h0
  have hh := head_app (rest := rest) hne
  refine ⟨hne, fun c hc => ?_, fun z => ?_, ?_, fun G O w q rows ks hp P hA S hk h1 h2 _ h => ?_⟩
  · rw [hc] at h0; exact (gt_of_let h0).1
  · rw [hh] at z; rw [z.1] at h0; exact absurd rfl (gt_of_let h0).2
  · rw [hh]; simp [isBad, h0]
  · have e : run w.x al q = row := by rw [run_at hA, tw_app hal, (tw_none (al_none hr)).1, List.append_nil]
    refine disp_let (by rw [hh]; exact h0) (c_word O (by decide) S (fun g hp2 S2 N2 L2 => ?_) (fun g hp2 S2 N2 L2 => ?_))
    · rw [e] at g S2 ⊢
      rw [if_pos g, if_pos g] at h
      exact h ks hp2 (by simpa using S2) (fun k hm => by have := hk k hm; omega) (by simp) N2
    · rw [e] at g S2 ⊢
      rw [if_neg (by rw [g]; decide), if_neg (by rw [g]; decide)] at h
      exact h ks hp2 (by simpa using S2) (fun k hm => by have := hk k hm; omega) (by simp) N2
theorem kfresh {ks : List Int} {q : Nat} (hk : ∀ k ∈ ks, k < (q : Int)) : ks.contains (q : Int) = false := by
  rw [List.contains_eq_mem, decide_eq_false_iff_not]
  exact fun hm => Int.lt_irrefl _ (hk _ hm)
theorem klt {ks : List Int} {q n : Nat} (hk : ∀ k ∈ ks, k < (q : Int)) (hn : 1 ≤ n) : ∀ k ∈ ((q : Int) :: ks), k < ((q + n : Nat) : Int) := by
  intro k hm
  rcases List.mem_cons.mp hm with rfl | hm
  · omega
  · have := hk k hm; omega
theorem sem_dec {ds rest : List Nat} (hd : ∀ c ∈ ds, dg c = true) (h0 : isDig ds[0]? = true) (hr : adjW rest[0]? = true) :
    TokSem ds rest "int" (.int (if tot 10 ds ≤ 2147483647 then (tot 10 ds : Int) else 0)) (if tot 10 ds ≤ 2147483647 then [] else [("number_too_large", 0)]) := by
  have hne : ds ≠ [] := by intro e; rw [e] at h0; cases h0
  have hh := head_app (rest := rest) hne
  simp only [adjW, Bool.and_eq_true, Bool.not_eq_true', bne_iff_ne] at hr
  have hpos : 1 ≤ ds.length := by cases ds with | nil => exact absurd rfl hne | cons _ _ => simp
  refine ⟨hne, fun c hc => ?_, fun z => ?_, ?_, fun G O w q rows ks hp P hA S hk h1 h2 _ h => ?_⟩
  · rw [hc] at h0; exact (gt_of_dig h0).1
  · rw [hh] at z; rw [z.1] at h0; exact absurd rfl (gt_of_dig h0).2
  · rw [hh]; simp [isBad, h0]
  · have e1 : run w.x hx q = ds := by rw [run_at hA, tw_app (fun c hc => dg_hx (hd c hc)), (tw_none fun c hc => not_hx (al_none hr.1 c hc)).1, List.append_nil]
    have e2 : run w.x dg q = ds := by rw [run_at hA, tw_app hd, (tw_none fun c hc => not_dg (al_none hr.1 c hc)).1, List.append_nil]
    have hA2 := hA.app
    have nx : w.x.cps.toList[q + ds.length]? = rest[0]? := hA2.h0
    have n72 : ∀ c, isAl (some c) = true → rest[0]? ≠ some c := fun c hc e => by rw [e] at hr; rw [hr.1] at hc; cases hc
    refine disp_dig (by rw [hh]; exact h0) (c_numeral O (by decide) S (fun z => ?_) (fun z => ?_) (fun _ _ hp2 S2 N2 L2 => ⟨fun z => ?_, fun _ => ?_⟩))
    · rw [e1, nx] at z; exact absurd z (n72 72 rfl)
    · rw [e1, nx] at z; exact absurd z (n72 88 rfl)
    · rw [e2, nx] at z; exact absurd z.1 hr.2
    · rw [e2] at S2 ⊢
      refine c_whole O (by decide) S2 (kfresh hk) (by omega) (by omega) (fun hle => ?_) (fun hlt hp3 S3 N3 L3 => ?_)
      · have ht : tot 10 ds ≤ 2147483647 := by unfold dv at hle; split at hle <;> omega
        rw [if_pos ht, if_pos ht] at h
        rw [show dv 10 2147483647 ds = tot 10 ds from if_pos ht]
        exact h ks hp2 (by simpa using S2) (fun k hm => by have := hk k hm; omega) (by simp) N2
      · have ht : ¬ tot 10 ds ≤ 2147483647 := by unfold dv at hlt; split at hlt <;> omega
        rw [if_neg ht, if_neg ht] at h
        rw [← L3]
        exact h _ hp3 (by simpa [mk1] using S3) (klt hk hpos) (by simp) (N2.trans N3)
theorem sem_hex {ds rest : List Nat} (hd : ∀ c ∈ ds, hx c = true) (h0 : isDig ds[0]? = true) :
    TokSem (ds ++ [72]) rest "int" (.int (if tot 16 ds ≤ 4294967295 then (if 2147483647 < tot 16 ds then (tot 16 ds : Int) - 4294967295 - 1 else tot 16 ds) else 0)) (if tot 16 ds ≤ 4294967295 then [] else [("number_too_large", 0)]) := by
  have hne : ds ≠ [] := by intro e; rw [e] at h0; cases h0
  have hh : (ds ++ [72] ++ rest)[0]? = ds[0]? := by rw [List.append_assoc]; exact head_app hne
  have hh2 : (ds ++ [72])[0]? = ds[0]? := head_app hne
  refine ⟨by simp, fun c hc => ?_, fun z => ?_, ?_, fun G O w q rows ks hp P hA S hk h1 h2 _ h => ?_⟩
  · rw [hh2] at hc; rw [hc] at h0; exact (gt_of_dig h0).1
  · rw [hh] at z; rw [z.1] at h0; exact absurd rfl (gt_of_dig h0).2
  · rw [hh]; simp [isBad, h0]
  · rw [List.append_assoc] at hA
    have e1 : run w.x hx q = ds := by rw [run_at hA, tw_app hd]; simp [show hx 72 = false from rfl]
    have nx : w.x.cps.toList[q + ds.length]? = some 72 := hA.app.h0
    have hl : q + (ds ++ [72]).length = q + ds.length + 1 := by simp; omega
    rw [hl] at h
    refine disp_dig (by rw [hh]; exact h0) (c_numeral O (by decide) S (fun _ hp2 S2 N2 L2 => ?_) (fun z => ?_) (fun z => ?_))
    · rw [e1] at S2 ⊢
      refine c_hexadecimal O (by decide) S2 hd (kfresh hk) (by omega) (by omega) (fun ht => ?_) (fun hlt hp3 S3 N3 L3 => ?_)
      · rw [if_pos ht, if_pos ht] at h
        exact h ks hp2 (by simpa using S2) (fun k hm => by have := hk k hm; omega) (by simp) N2
      · rw [if_neg (by omega), if_neg (by omega)] at h
        rw [← L3]
        exact h _ hp3 (by simpa [mk1] using S3) (by have := klt (n := ds.length + 1) hk (by omega); rw [← Nat.add_assoc] at this; exact this) (by simp) (N2.trans N3)
    · rw [e1, nx] at z; cases z
    · rw [e1, nx] at z; exact absurd rfl z
theorem sem_chr {ds rest : List Nat} (hd : ∀ c ∈ ds, hx c = true) (h0 : isDig ds[0]? = true) :
    TokSem (ds ++ [88]) rest "string" (.str ⟨#[if tot 16 ds ≤ 255 then tot 16 ds else 0]⟩) (if tot 16 ds ≤ 255 then [] else [("bad_char", 0)]) := by
  have hne : ds ≠ [] := by intro e; rw [e] at h0; cases h0
  have hh : (ds ++ [88] ++ rest)[0]? = ds[0]? := by rw [List.append_assoc]; exact head_app hne
  have hh2 : (ds ++ [88])[0]? = ds[0]? := head_app hne
  refine ⟨by simp, fun c hc => ?_, fun z => ?_, ?_, fun G O w q rows ks hp P hA S hk h1 h2 _ h => ?_⟩
  · rw [hh2] at hc; rw [hc] at h0; exact (gt_of_dig h0).1
  · rw [hh] at z; rw [z.1] at h0; exact absurd rfl (gt_of_dig h0).2
  · rw [hh]; simp [isBad, h0]
  · rw [List.append_assoc] at hA
    have e1 : run w.x hx q = ds := by rw [run_at hA, tw_app hd]; simp [show hx 88 = false from rfl]
    have nx : w.x.cps.toList[q + ds.length]? = some 88 := hA.app.h0
    have hl : q + (ds ++ [88]).length = q + ds.length + 1 := by simp; omega
    rw [hl] at h
    refine disp_dig (by rw [hh]; exact h0) (c_numeral O (by decide) S (fun z => ?_) (fun _ hp2 S2 N2 L2 => ?_) (fun _ z => ?_))
    · rw [e1, nx] at z; cases z
    · rw [e1] at S2 ⊢
      refine c_character O (by decide) S2 hd (kfresh hk) (by omega) (by omega) (fun ht => ?_) (fun hlt hp3 S3 N3 L3 => ?_)
      · rw [if_pos ht, if_pos ht] at h
        exact h ks hp2 (by simpa using S2) (fun k hm => by have := hk k hm; omega) (by simp) N2
      · rw [if_neg (by omega), if_neg (by omega)] at h
        rw [← L3]
        exact h _ hp3 (by simpa [mk1] using S3) (by have := klt (n := ds.length + 1) hk (by omega); rw [← Nat.add_assoc] at this; exact this) (by simp) (N2.trans N3)
    · rw [e1, nx] at z; exact absurd rfl z
theorem sem_real {ds tl rest : List Nat} (hd : ∀ c ∈ ds, dg c = true) (h0 : isDig ds[0]? = true) (hp : (tl ++ rest)[0]? ≠ some 46) (hl : realLen (tl ++ rest) = tl.length) :
    TokSem (ds ++ 46 :: tl) rest "int" (.int 0) [("reals_left_out", 0)] := by
  have hne : ds ≠ [] := by intro e; rw [e] at h0; cases h0
  have hh : (ds ++ 46 :: tl ++ rest)[0]? = ds[0]? := by rw [List.append_assoc]; exact head_app hne
  have hh2 : (ds ++ 46 :: tl)[0]? = ds[0]? := head_app hne
  refine ⟨by simp, fun c hc => ?_, fun z => ?_, ?_, fun G O w q rows ks hp0 P hA S hk h1 h2 _ h => ?_⟩
  · rw [hh2] at hc; rw [hc] at h0; exact (gt_of_dig h0).1
  · rw [hh] at z; rw [z.1] at h0; exact absurd rfl (gt_of_dig h0).2
  · rw [hh]; simp [isBad, h0]
  · rw [List.append_assoc] at hA
    have e1 : run w.x hx q = ds := by rw [run_at hA, tw_app (fun c hc => dg_hx (hd c hc))]; simp [show hx 46 = false from rfl]
    have e2 : run w.x dg q = ds := by rw [run_at hA, tw_app hd]; simp [show dg 46 = false from rfl]
    have hA2 := hA.app
    have nx : w.x.cps.toList[q + ds.length]? = some 46 := hA2.h0
    have hA3 : At w.x.cps.toList (q + ds.length + 1) (tl ++ rest) := hA2.step
    have nx2 : w.x.cps.toList[q + ds.length + 1]? = (tl ++ rest)[0]? := hA3.h0
    refine disp_dig (by rw [hh]; exact h0) (c_numeral O (by decide) S (fun z => ?_) (fun z => ?_) (fun _ _ hp2 S2 N2 L2 => ⟨fun _ => ?_, fun z => ?_⟩))
    · rw [e1, nx] at z; cases z
    · rw [e1, nx] at z; cases z
    · rw [e2] at S2
      refine c_real O (by decide) S2 (kfresh hk) (by omega) (by omega) fun hp3 S3 N3 => ?_
      rw [hA3.1, hl] at S3
      have hl2 : q + (ds ++ 46 :: tl).length = q + ds.length + 1 + tl.length := by simp; omega
      rw [hl2] at h
      exact h _ hp3 (by simpa using S3) (by have := klt (n := ds.length + 1 + tl.length) hk (by omega); rw [← Nat.add_assoc, ← Nat.add_assoc] at this; exact this) (by simp) (N2.trans N3)
    · rw [e2, nx, nx2] at z; exact absurd ⟨rfl, hp⟩ z
end Mine
end
section
set_option maxRecDepth 20000
namespace Mine
theorem disp_quo {G : Gl} {w : Wd} {q : Nat} {b : Option Nat} {rows : List AV} {ks : List Int} {hp : List AO} {P : AV → List AO → Prop} (hT : TF G 5 aString [.obj w.i, .int q] hp P) : Disp G w q (some 34) b rows ks hp P :=
  ⟨fun z => (by cases z), fun z => (by cases z), fun z => (by cases z), fun _ => hT, fun _ _ z => absurd rfl z⟩
theorem strR_plain {N : Nat} {t a r bs : List Nat} {cl : Bool} (h : StrR N t a r bs cl) : ∀ v : List Nat, (∀ c ∈ v, c ≠ 34 ∧ c ≠ 10 ∧ c ≤ 255) → StrR N (v ++ t) (v ++ a) r bs cl
  | [], _ => h
  | c :: v, hv => by
    obtain ⟨h1, h2, h3⟩ := hv c (.head _)
    exact .good h1 h2 h3 (strR_plain h v fun d hd => hv d (.tail _ hd))
theorem sem_txt {v rest : List Nat} (hv : ∀ c ∈ v, c ≠ 34 ∧ c ≠ 10 ∧ c ≤ 255) : TokSem (34 :: (v ++ [34])) rest "string" (.str (sl v)) [] := by
  refine ⟨by simp, fun c hc => (by cases hc; decide), fun z => (by cases z.1), (by rfl), fun G O w q rows ks hp P hA S hk h1 h2 hN h => ?_⟩
  have hA1 : At w.x.cps.toList (q + 1) (v ++ 34 :: rest) := by have := hA.step; simpa using this
  have hR : StrR w.x.cps.toList.length (v ++ 34 :: rest) v rest [] true := by have := strR_plain (.close (N := w.x.cps.toList.length) (t := rest)) v hv; simpa using this
  have hp1 := hA1.pos
  refine disp_quo (c_string O (by decide) S hA1 hR hk (by simp; omega) (by simp; omega) (by omega) fun q2 ks' hp' hA2 S2 hk2 hl2 N2 => ?_)
  have hp2 := hA2.pos
  have e : q2 = q + (34 :: (v ++ [34])).length := by simp only [List.length_append, List.length_cons, List.length_nil] at hp1 ⊢; omega
  subst e
  exact h ks' hp' (by simpa using S2) hk2 (by simpa using hl2) N2
theorem sem_utxt {v rest : List Nat} (hv : ∀ c ∈ v, c ≠ 34 ∧ c ≠ 10 ∧ c ≤ 255) (hr : rest[0]? = some 10) : TokSem (34 :: v) rest "string" (.str (sl v)) [("unfinished_string", 0)] := by
  obtain ⟨t, rfl⟩ : ∃ t, rest = 10 :: t := by
    cases rest with
    | nil => cases hr
    | cons a t => cases hr; exact ⟨t, rfl⟩
  refine ⟨by simp, fun c hc => (by cases hc; decide), fun z => (by cases z.1), (by rfl), fun G O w q rows ks hp P hA S hk h1 h2 hN h => ?_⟩
  have hA1 : At w.x.cps.toList (q + 1) (v ++ 10 :: t) := hA.step
  have hR : StrR w.x.cps.toList.length (v ++ 10 :: t) v (10 :: t) [] false := by have := strR_plain (.nl (N := w.x.cps.toList.length) (t := t)) v hv; simpa using this
  have hp1 := hA1.pos
  refine disp_quo (c_string O (by decide) S hA1 hR hk (by simp; omega) (by simp; omega) (by omega) fun q2 ks' hp' hA2 S2 hk2 hl2 N2 => ?_)
  have hp2 := hA2.pos
  have e : q2 = q + (34 :: v).length := by simp only [List.length_append, List.length_cons, List.length_nil] at hp1 hp2 ⊢; omega
  subst e
  exact h ks' hp' (by simpa using S2) hk2 (by simp at hl2 ⊢; omega) N2
theorem sem_btxt {rest : List Nat} : TokSem [34, 97, 256, 98, 1000, 34] rest "string" (.str (sl [97, 98])) [("bad_character", 2), ("bad_character", 4)] := by
  refine ⟨by simp, fun c hc => (by cases hc; decide), fun z => (by cases z.1), (by rfl), fun G O w q rows ks hp P hA S hk h1 h2 hN h => ?_⟩
  have hA1 : At w.x.cps.toList (q + 1) (97 :: 256 :: 98 :: 1000 :: 34 :: rest) := hA.step
  have hp1 := hA1.pos
  simp only [List.length_cons] at hp1
  have e1 : w.x.cps.toList.length - ((98 :: 1000 :: 34 :: rest).length + 1) = q + 2 := Nat.sub_eq_of_eq_add ((Nat.succ_add_eq_add_succ (q + 1) _).trans hp1).symm
  have e2 : w.x.cps.toList.length - ((34 :: rest).length + 1) = q + 4 := Nat.sub_eq_of_eq_add (((Nat.succ_add_eq_add_succ (q + 3) _).trans (Nat.succ_add_eq_add_succ (q + 2) _)).trans ((Nat.succ_add_eq_add_succ (q + 1) _).trans hp1)).symm
  have hR : StrR w.x.cps.toList.length (97 :: 256 :: 98 :: 1000 :: 34 :: rest) [97, 98] rest [q + 2, q + 4] true := by
    have := StrR.good (N := w.x.cps.toList.length) (c := 97) (by decide) (by decide) (by decide) (.bad (c := 256) (by decide) (by decide) (by decide) (.good (c := 98) (by decide) (by decide) (by decide) (.bad (c := 1000) (by decide) (by decide) (by decide) (.close (t := rest)))))
    rw [e1, e2] at this
    exact this
  refine disp_quo (c_string O (by decide) S hA1 hR hk (by simp; omega) (by simp; omega) (by simp; omega) fun q2 ks' hp' hA2 S2 hk2 hl2 N2 => ?_)
  have hp2 := hA2.pos
  have e : q2 = q + 6 := by omega
  subst e
  exact h ks' hp' (by simpa using S2) hk2 (by simpa using hl2) N2
theorem s_p1 : PySem.Str.ofString ":=" = ⟨#[58, 61]⟩ := by decide
theorem s_p2 : PySem.Str.ofString "<=" = ⟨#[60, 61]⟩ := by decide
theorem s_p3 : PySem.Str.ofString ">=" = ⟨#[62, 61]⟩ := by decide
theorem s_p4 : PySem.Str.ofString ".." = ⟨#[46, 46]⟩ := by decide
theorem pairs_any (a b : Option Nat) : pairs.any (· == (oc a ++ oc b)) = ((a == some 58 && b == some 61) || (a == some 60 && b == some 61) || (a == some 62 && b == some 61) || (a == some 46 && b == some 46)) := by
  have cm : ∀ x y : Str, (x == y) = (y == x) := fun x y => by rw [Bool.eq_iff_iff, beq_iff_eq, beq_iff_eq]; exact ⟨Eq.symm, Eq.symm⟩
  simp only [pairs, List.any_cons, List.any_nil, s_p1, s_p2, s_p3, s_p4, cm _ (oc a ++ oc b), pr_two, Bool.or_false, Bool.or_assoc]
theorem symb_one {c : Nat} {o : Option Nat} (h : (o ≠ some 61 ∧ o ≠ some 46) ∨ (c ≠ 58 ∧ c ≠ 60 ∧ c ≠ 62 ∧ c ≠ 46)) : symb (some c) o = symb (some c) none := by
  unfold symb
  rw [pairs_any, pairs_any]
  have e1 : ((some c == some 58 && o == some 61) || (some c == some 60 && o == some 61) || (some c == some 62 && o == some 61) || (some c == some 46 && o == some 46)) = false := by
    rcases h with ⟨h1, h2⟩ | ⟨h1, h2, h3, h4⟩
    · simp [beq_eq_false_iff_ne.mpr h1, beq_eq_false_iff_ne.mpr h2]
    · simp [beq_eq_false_iff_ne.mpr h1, beq_eq_false_iff_ne.mpr h2, beq_eq_false_iff_ne.mpr h3, beq_eq_false_iff_ne.mpr h4]
  have e2 : ((some c == some 58 && (none : Option Nat) == some 61) || (some c == some 60 && (none : Option Nat) == some 61) || (some c == some 62 && (none : Option Nat) == some 61) || (some c == some 46 && (none : Option Nat) == some 46)) = false := by simp
  rw [e1, e2, if_neg Bool.false_ne_true, if_neg Bool.false_ne_true]
noncomputable def sgnOk : List Nat → Bool
  | [c] => !isLet (some c) && !isDig (some c) && c != 34 && decide (32 < c) && symb (some c) none == sl [c]
  | [c, d] => !isLet (some c) && !isDig (some c) && c != 34 && decide (32 < c) && c != 40 && symb (some c) (some d) == sl [c, d]
  | _ => false
theorem sgn_ok : ∀ s ∈ sgns, sgnOk (cd s) = true := by decide +kernel
theorem nb_sym {a b : Option Nat} {row : List Nat} (e : symb a b = sl row) (h : row ≠ []) : isBad a b = false := by
  have k : (symb a b == PySem.Str.ofString "") = false := by
    rw [e, show PySem.Str.ofString "" = sl [] by decide, sl_beq]
    exact beq_eq_false_iff_ne.mpr h
  unfold isBad
  rw [k, Bool.and_false]
theorem disp_sym {G : Gl} {w : Wd} {q c : Nat} {b : Option Nat} {rows : List AV} {ks : List Int} {hp : List AO} {P : AV → List AO → Prop} {row : List Nat} (h1 : isLet (some c) = false) (h2 : isDig (some c) = false) (h3 : c ≠ 34) (e : symb (some c) b = sl row)
    (h : ∀ hp', Sc w (q + row.length) rows ks hp' → Nx w hp hp' → hp'.length = hp.length → P (.obj hp'.length) (hp' ++ [tok (.str (sl row)) (.str "") q])) : Disp G w q (some c) b rows ks hp P :=
  ⟨fun z => (by cases z), fun z => (by rw [h1] at z; cases z), fun z => (by rw [h2] at z; cases z), fun z => absurd (Option.some.inj z) h3, fun _ _ _ _ hp' S2 N2 L2 => by
    rw [e] at S2 ⊢
    rw [sl_length] at S2
    exact h hp' S2 N2 L2⟩
theorem sem_sgn {row rest : List Nat} (hs : sgnOk row = true) (hr : adjM rest[0]? = true) : TokSem row rest (sl row) (.str "") [] := by
  simp only [adjM, Bool.and_eq_true, bne_iff_ne] at hr
  obtain ⟨⟨r1, r2⟩, r3⟩ := hr
  match row, hs with
  | [c], hs =>
    simp only [sgnOk, Bool.and_eq_true, Bool.not_eq_true', bne_iff_ne, decide_eq_true_eq, beq_iff_eq] at hs
    obtain ⟨⟨⟨⟨h1, h2⟩, h3⟩, h4⟩, h5⟩ := hs
    have e : symb (some c) rest[0]? = sl [c] := (symb_one (.inl ⟨r1, r2⟩)).trans h5
    refine ⟨by simp, fun d hd => (by cases hd; exact h4), fun z => r3 z.2, ?_, fun G O w q rows ks hp P hA S hk _ _ _ h => ?_⟩
    · exact nb_sym (row := [c]) e (by simp)
    · show Disp G w q (some c) rest[0]? rows ks hp P
      exact disp_sym h1 h2 h3 e fun hp' S2 N2 L2 => h ks hp' (by simpa using S2) (fun k hm => by have := hk k hm; omega) (by simp) N2
  | [c, d], hs =>
    simp only [sgnOk, Bool.and_eq_true, Bool.not_eq_true', bne_iff_ne, decide_eq_true_eq, beq_iff_eq] at hs
    obtain ⟨⟨⟨⟨⟨h1, h2⟩, h3⟩, h4⟩, h6⟩, h5⟩ := hs
    refine ⟨by simp, fun x hx => (by cases hx; exact h4), fun z => absurd (Option.some.inj z.1) h6, ?_, fun G O w q rows ks hp P hA S hk _ _ _ h => ?_⟩
    · exact nb_sym (row := [c, d]) h5 (by simp)
    · show Disp G w q (some c) (some d) rows ks hp P
      exact disp_sym h1 h2 h3 h5 fun hp' S2 N2 L2 => h ks hp' (by simpa using S2) (fun k hm => by have := hk k hm; omega) (by simp) N2
theorem bad_ok : ∀ c ∈ bads, (c ≠ 58 ∧ c ≠ 60 ∧ c ≠ 62 ∧ c ≠ 46) ∧ isLet (some c) = false ∧ isDig (some c) = false ∧ c ≠ 34 ∧ 32 < c ∧ c ≠ 40 ∧ symb (some c) none = PySem.Str.ofString "" ∧ adjM (some c) = true := by decide +kernel
theorem bad_bad {c : Nat} (h : c ∈ bads) (o : Option Nat) : isBad (some c) o = true := by
  obtain ⟨h1, h2, h3, h4, h5, h6, h7, _⟩ := bad_ok c h
  have e : symb (some c) o = PySem.Str.ofString "" := (symb_one (.inr h1)).trans h7
  simp [isBad, h2, h3, h4, e]
end Mine
end
section
set_option maxRecDepth 20000
namespace Mine
noncomputable def wordOk (k : Bool) (l : List Nat) : Bool := l.all al && isLet l[0]? && (kwl.any (· == sl l) == k)
theorem ident_ok : ∀ s ∈ idents, wordOk false (cd s) = true := by decide +kernel
theorem kw_ok : ∀ s ∈ kws, wordOk true (cd s) = true := by decide +kernel
noncomputable def decOk (l : List Nat) (v : Int) : Bool := l.all dg && isDig l[0]? && decide (tot 10 l ≤ 2147483647) && decide ((tot 10 l : Int) = v)
noncomputable def decBig (l : List Nat) : Bool := l.all dg && isDig l[0]? && !decide (tot 10 l ≤ 2147483647)
noncomputable def hexOk (l : List Nat) (v : Int) : Bool := l.dropLast.all hx && isDig l.dropLast[0]? && decide (l = l.dropLast ++ [72]) && decide (tot 16 l.dropLast ≤ 4294967295) && decide ((if 2147483647 < tot 16 l.dropLast then (tot 16 l.dropLast : Int) - 4294967295 - 1 else tot 16 l.dropLast) = v)
noncomputable def hexBig (l : List Nat) : Bool := l.dropLast.all hx && isDig l.dropLast[0]? && decide (l = l.dropLast ++ [72]) && !decide (tot 16 l.dropLast ≤ 4294967295)
noncomputable def chrBig (l : List Nat) : Bool := l.dropLast.all hx && isDig l.dropLast[0]? && decide (l = l.dropLast ++ [88]) && !decide (tot 16 l.dropLast ≤ 255)
theorem num_ok : ∀ x ∈ nums, (decOk (cd x.1) x.2 || hexOk (cd x.1) x.2) = true := by decide +kernel
theorem big_ok : ∀ s ∈ bigs, (decBig (cd s) || hexBig (cd s)) = true := by decide +kernel
theorem bch_ok : ∀ s ∈ bchs, chrBig (cd s) = true := by decide +kernel
theorem txt_ok : ∀ v ∈ txts, ∀ c ∈ v, c ≠ 34 ∧ c ≠ 10 ∧ c ≤ 255 := by decide
theorem hxd_ok : ∀ m ∈ List.range 16, hx (hxd m) = true ∧ dgt (hxd m) = m := by decide
theorem adjW_al {o : Option Nat} (h : adjW o = true) : isAl o = false ∧ o ≠ some 46 := by
  simpa [adjW] using h
theorem sem_decOk {l rest : List Nat} {v : Int} (h : decOk l v = true) (hr : adjW rest[0]? = true) : TokSem l rest "int" (.int v) [] := by
  simp only [decOk, Bool.and_eq_true, List.all_eq_true, decide_eq_true_eq] at h
  obtain ⟨⟨⟨h1, h2⟩, h3⟩, h4⟩ := h
  have := sem_dec h1 h2 hr
  rw [if_pos h3, if_pos h3, h4] at this
  exact this
theorem sem_decBig {l rest : List Nat} (h : decBig l = true) (hr : adjW rest[0]? = true) : TokSem l rest "int" (.int 0) [("number_too_large", 0)] := by
  simp only [decBig, Bool.and_eq_true, List.all_eq_true, Bool.not_eq_true', decide_eq_false_iff_not] at h
  obtain ⟨⟨h1, h2⟩, h3⟩ := h
  have := sem_dec h1 h2 hr
  rw [if_neg h3, if_neg h3] at this
  exact this
theorem sem_hexOk {l rest : List Nat} {v : Int} (h : hexOk l v = true) : TokSem l rest "int" (.int v) [] := by
  simp only [hexOk, Bool.and_eq_true, List.all_eq_true, decide_eq_true_eq] at h
  obtain ⟨⟨⟨⟨h1, h2⟩, h3⟩, h4⟩, h5⟩ := h
  have := sem_hex (rest := rest) h1 h2
  rw [if_pos h4, if_pos h4, h5, ← h3] at this
  exact this
theorem sem_hexBig {l rest : List Nat} (h : hexBig l = true) : TokSem l rest "int" (.int 0) [("number_too_large", 0)] := by
  simp only [hexBig, Bool.and_eq_true, List.all_eq_true, decide_eq_true_eq, Bool.not_eq_true', decide_eq_false_iff_not] at h
  obtain ⟨⟨⟨h1, h2⟩, h3⟩, h4⟩ := h
  have := sem_hex (rest := rest) h1 h2
  rw [if_neg h4, if_neg h4, ← h3] at this
  exact this
theorem sem_chrBig {l rest : List Nat} (h : chrBig l = true) : TokSem l rest "string" (.str ⟨#[0]⟩) [("bad_char", 0)] := by
  simp only [chrBig, Bool.and_eq_true, List.all_eq_true, decide_eq_true_eq, Bool.not_eq_true', decide_eq_false_iff_not] at h
  obtain ⟨⟨⟨h1, h2⟩, h3⟩, h4⟩ := h
  have := sem_chr (rest := rest) h1 h2
  rw [if_neg h4, if_neg h4, ← h3] at this
  exact this
theorem realLen_dig {tl rest : List Nat} (h : ∀ c ∈ tl, dg c = true) (hr : isAl rest[0]? = false) : realLen (tl ++ rest) = tl.length := by
  have e := tw_none fun c hc => not_dg (al_none hr c hc)
  unfold realLen
  rw [tw_app h, dw_app h, e.1, e.2, List.append_nil]
  have : rest[0]? ≠ some 69 := fun z => by rw [z] at hr; cases hr
  simp only [if_neg this, Nat.add_zero]
theorem realLen_exp {f s e rest : List Nat} (h : ∀ c ∈ f, dg c = true) (hs : s = [] ∨ s = [43] ∨ s = [45]) (he : ∀ c ∈ e, dg c = true) (h0 : isDig e[0]? = true) (hr : isAl rest[0]? = false) : realLen ((f ++ 69 :: (s ++ e)) ++ rest) = (f ++ 69 :: (s ++ e)).length := by
  have hne : e ≠ [] := by intro z; rw [z] at h0; cases h0
  have e1 : (f ++ 69 :: (s ++ e)) ++ rest = f ++ (69 :: (s ++ (e ++ rest))) := by simp
  have e2 := tw_none (g := dg) (l := 69 :: (s ++ (e ++ rest))) fun c hc => by cases hc; rfl
  have e3 := tw_none fun c hc => not_dg (al_none hr c hc)
  have e4 : (e ++ rest)[0]? = e[0]? := head_app hne
  unfold realLen
  rw [e1, tw_app h, dw_app h, e2.1, e2.2, List.append_nil]
  simp only [List.getElem?_cons_zero, if_true]
  have n43 : e[0]? ≠ some 43 ∧ e[0]? ≠ some 45 := ⟨fun z => (by rw [z] at h0; cases h0), fun z => (by rw [z] at h0; cases h0)⟩
  rcases hs with rfl | rfl | rfl
  · have c : ¬ ((69 :: ([] ++ (e ++ rest)))[1]? = some 43 ∨ (69 :: ([] ++ (e ++ rest)))[1]? = some 45) := by
      show ¬ ((e ++ rest)[0]? = some 43 ∨ (e ++ rest)[0]? = some 45)
      rw [e4]
      exact fun z => z.elim n43.1 n43.2
    rw [if_neg c]
    unfold expLen
    rw [show (69 :: ([] ++ (e ++ rest)))[1 + 0]? = (e ++ rest)[0]? from rfl, e4, if_pos h0]
    show _ + (1 + 0 + ((e ++ rest).takeWhile dg).length) = _
    rw [tw_app he, e3.1, List.append_nil]
    simp; omega
  · rw [if_pos (.inl rfl)]
    unfold expLen
    rw [show (69 :: ([43] ++ (e ++ rest)))[1 + 1]? = (e ++ rest)[0]? from rfl, e4, if_pos h0]
    show _ + (1 + 1 + ((e ++ rest).takeWhile dg).length) = _
    rw [tw_app he, e3.1, List.append_nil]
    simp; omega
  · rw [if_pos (.inr rfl)]
    unfold expLen
    rw [show (69 :: ([45] ++ (e ++ rest)))[1 + 1]? = (e ++ rest)[0]? from rfl, e4, if_pos h0]
    show _ + (1 + 1 + ((e ++ rest).takeWhile dg).length) = _
    rw [tw_app he, e3.1, List.append_nil]
    simp; omega
theorem sem_reals {s : String} (hs : s ∈ reals) {rest : List Nat} (hr : adjW rest[0]? = true) : TokSem (cd s) rest "int" (.int 0) [("reals_left_out", 0)] := by
  obtain ⟨ha, hd⟩ := adjW_al hr
  simp only [reals, List.mem_cons, List.not_mem_nil, or_false] at hs
  rcases hs with rfl | rfl | rfl | rfl | rfl
  · rw [show cd "1.5" = [49] ++ 46 :: [53] by decide]
    exact sem_real (by decide) rfl (by simp) (realLen_dig (by decide) ha)
  · rw [show cd "0." = [48] ++ 46 :: [] by decide]
    exact sem_real (by decide) rfl hd (realLen_dig (by decide) ha)
  · rw [show cd "12.25E3" = [49, 50] ++ 46 :: ([50, 53] ++ 69 :: ([] ++ [51])) by decide]
    exact sem_real (by decide) rfl (by simp) (realLen_exp (by decide) (.inl rfl) (by decide) rfl ha)
  · rw [show cd "3.E-7" = [51] ++ 46 :: ([] ++ 69 :: ([45] ++ [55])) by decide]
    exact sem_real (by decide) rfl (by simp) (realLen_exp (by decide) (.inr (.inr rfl)) (by decide) rfl ha)
  · rw [show cd "7.1E+08" = [55] ++ 46 :: ([49] ++ 69 :: ([43] ++ [48, 56])) by decide]
    exact sem_real (by decide) rfl (by simp) (realLen_exp (by decide) (.inr (.inl rfl)) (by decide) rfl ha)
theorem drawn_sem {row tail : List Nat} {cls : Nat} {k : Str} {val : AV} {ms : List (Str × Nat)} (D : Drawn row tail cls (some k) val ms) {rest : List Nat} (h1 : cls = 1 → adjW rest[0]? = true) (h2 : cls = 2 → adjM rest[0]? = true) (ht : tail = [10] → rest[0]? = some 10) : TokSem row rest k val ms := by
  cases D with
  | ident hs =>
    have h := ident_ok _ hs
    simp only [wordOk, Bool.and_eq_true, List.all_eq_true, beq_iff_eq] at h
    obtain ⟨⟨g1, g2⟩, g3⟩ := h
    have := sem_word (rest := rest) g1 g2 (adjW_al (h1 rfl)).1
    rw [if_neg (by rw [g3]; decide), if_neg (by rw [g3]; decide)] at this
    exact this
  | word hs =>
    have h := kw_ok _ hs
    simp only [wordOk, Bool.and_eq_true, List.all_eq_true, beq_iff_eq] at h
    obtain ⟨⟨g1, g2⟩, g3⟩ := h
    have := sem_word (rest := rest) g1 g2 (adjW_al (h1 rfl)).1
    rw [if_pos g3, if_pos g3] at this
    exact this
  | num hx =>
    have h := num_ok _ hx
    rw [Bool.or_eq_true] at h
    rcases h with h | h
    · exact sem_decOk h (h1 rfl)
    · exact sem_hexOk h
  | text hv => exact sem_txt (txt_ok _ hv)
  | @chr k hk =>
    obtain ⟨a1, a2⟩ := hxd_ok (k / 16) (List.mem_range.mpr (by omega))
    obtain ⟨b1, b2⟩ := hxd_ok (k % 16) (List.mem_range.mpr (by omega))
    have hd : ∀ c ∈ [48, hxd (k / 16), hxd (k % 16)], hx c = true := by
      intro c hc
      simp only [List.mem_cons, List.not_mem_nil, or_false] at hc
      rcases hc with rfl | rfl | rfl
      · rfl
      · exact a1
      · exact b1
    have et : tot 16 [48, hxd (k / 16), hxd (k % 16)] = k := by
      show ((0 * 16 + dgt 48) * 16 + dgt (hxd (k / 16))) * 16 + dgt (hxd (k % 16)) = k
      rw [a2, b2, show dgt 48 = 0 from rfl]
      omega
    have := sem_chr (rest := rest) hd rfl
    rw [et, if_pos (by omega), if_pos (by omega)] at this
    exact this
  | sgn hs => exact sem_sgn (sgn_ok _ hs) (h2 rfl)
  | bch hs => exact sem_chrBig (bch_ok _ hs)
  | big hs =>
    have h := big_ok _ hs
    rw [Bool.or_eq_true] at h
    rcases h with h | h
    · exact sem_decBig h (h1 rfl)
    · exact sem_hexBig h
  | real hs => exact sem_reals hs (h1 rfl)
  | btxt => exact sem_btxt
  | utxt => exact sem_utxt (by decide) (ht rfl)
end Mine
end
section
set_option maxRecDepth 20000
namespace Mine
theorem gap_pc {p l r : List Nat} {u : Option Nat} (hp : p ∈ pcs) (h : Gap l r u) : Gap (p ++ l) r u := by
  simp only [pcs, List.mem_cons, List.not_mem_nil, or_false] at hp
  rcases hp with rfl | rfl | rfl | rfl | rfl | rfl | rfl | rfl
  · exact .blank (by decide) h
  · exact .blank (by decide) h
  · exact .blank (by decide) h
  · exact .blank (by decide) (.blank (by decide) h)
  · rw [show cd "(* a *)" = [40, 42, 32, 97, 32, 42, 41] by decide]
    simp only [List.cons_append, List.nil_append]
    exact .rem (.oth (by simp) (by simp) (.oth (by simp) (by simp) (.oth (by simp) (by simp) (.cls (.done l))))) h
  · rw [show cd "(*(*) b *)*)" = [40, 42, 40, 42, 41, 32, 98, 32, 42, 41, 42, 41] by decide]
    simp only [List.cons_append, List.nil_append]
    exact .rem (.opn (.oth (by simp) (by simp) (.oth (by simp) (by simp) (.oth (by simp) (by simp) (.oth (by simp) (by simp) (.cls (.cls (.done l)))))))) h
  · rw [show cd "(* (* c *) d \" *)" = [40, 42, 32, 40, 42, 32, 99, 32, 42, 41, 32, 100, 32, 34, 32, 42, 41] by decide]
    simp only [List.cons_append, List.nil_append]
    exact .rem (.oth (by simp) (by simp) (.opn (.oth (by simp) (by simp) (.oth (by simp) (by simp) (.oth (by simp) (by simp) (.cls (.oth (by simp) (by simp) (.oth (by simp) (by simp) (.oth (by simp) (by simp) (.oth (by simp) (by simp) (.oth (by simp) (by simp) (.cls (.done l))))))))))))) h
  · exact .blank (by decide) h
theorem gap_ps {l r : List Nat} {u : Option Nat} (h : Gap l r u) : ∀ ps : List (List Nat), (∀ p ∈ ps, p ∈ pcs) → Gap (ps.flatten ++ l) r u
  | [], _ => h
  | p :: ps, hp => by
    rw [List.flatten_cons, List.append_assoc]
    exact gap_pc (hp p (.head _)) (gap_ps h ps fun q hq => hp q (.tail _ hq))
inductive Scan (N : Nat) : List Nat → List (Str × AV × Nat) → List (Nat × Str) → Prop
  | fin {l : List Nat} {u : Option Nat} (h : Gap l [] u) : Scan N l [] (uMs N u)
  | bad {l t : List Nat} {c : Nat} {due : List (Str × AV × Nat)} {ms : List (Nat × Str)} (h : Gap l (c :: t) none) (hb : isBad (some c) t[0]? = true) (hs : Scan N t due ms) : Scan N l due ((N - (t.length + 1), "bad_character") :: ms)
  | tok {l row rest : List Nat} {kind : Str} {val : AV} {tms : List (Str × Nat)} {due : List (Str × AV × Nat)} {ms : List (Nat × Str)} (h : Gap l (row ++ rest) none) (ht : TokSem row rest kind val tms) (hs : Scan N rest due ms) :
      Scan N l ((kind, val, N - (row ++ rest).length) :: due) ((tms.map fun m => (N - (row ++ rest).length + m.2, m.1)) ++ ms)
theorem scan_gap {N : Nat} {l : List Nat} {d : List (Str × AV × Nat)} {m : List (Nat × Str)} (h : Scan N l d m) {ps : List (List Nat)} (hp : ∀ p ∈ ps, p ∈ pcs) : Scan N (ps.flatten ++ l) d m := by
  cases h with
  | fin h => exact .fin (gap_ps h ps hp)
  | bad h hb hs => exact .bad (gap_ps h ps hp) hb hs
  | tok h ht hs => exact .tok (gap_ps h ps hp) ht hs
theorem scan_step {N : Nat} {l : List Nat} {d : List (Str × AV × Nat)} {ms : List (Nat × Str)} (h : Scan N l d ms) : ∀ {kind : Str} {val : AV} {pos : Nat} {due : List (Str × AV × Nat)}, d = (kind, val, pos) :: due →
    ∃ row rest msL tms ms', Lead N l (row ++ rest) msL ∧ TokSem row rest kind val tms ∧ Scan N rest due ms' ∧ pos = N - (row ++ rest).length ∧ ms = msL ++ ((tms.map fun m => (pos + m.2, m.1)) ++ ms') := by
  induction h with
  | fin h => intro _ _ _ _ e; cases e
  | @bad l t c due ms h hb hs ih =>
    intro kind val pos due' e
    obtain ⟨row, rest, msL, tms, ms', h1, h2, h3, h4, h5⟩ := ih e
    exact ⟨row, rest, _, tms, ms', .bad h hb h1, h2, h3, h4, by rw [h5]; rfl⟩
  | @tok l row rest kind val tms due ms h ht hs ih =>
    intro kind val pos due' e
    cases e
    exact ⟨row, rest, [], tms, ms, .here h ht.nb, ht, hs, rfl, rfl⟩
theorem scan_end {N : Nat} {l : List Nat} {d : List (Str × AV × Nat)} {ms : List (Nat × Str)} (h : Scan N l d ms) : d = [] → Lead N l [] ms := by
  induction h with
  | fin h => intro _; exact .here h rfl
  | bad h hb hs ih => intro e; exact .bad h hb (ih e)
  | tok h ht hs ih => intro e; cases e
theorem scan_nil {N : Nat} : Scan N [] [] [] := .fin (u := none) (.stop (fun c hc => (by cases hc)) (fun z => (by cases z.1)))
noncomputable def hd0 (c : Nat) : Bool := Txt.isalnum (sl [c]) && decide (c < 128)
noncomputable def rowOk (row tail : List Nat) (cls : Nat) (k : Option Str) : Bool := match row with
  | [] => false
  | c :: _ => (hd0 c == (cls == 1)) && (cls == 2 || adjM (some c)) && (match k with
    | some k => cls == 1 || ((k == sl (row ++ tail)) == (cls == 2))
    | none => cls != 2) && decide (row.length + tail.length ≤ 40) && (decide (tail = []) || (decide (tail = [10]) && cls == 0)) && cls < 3
set_option genInjectivity false in
structure DF (row tail : List Nat) (cls : Nat) (kind : Option Str) (val : AV) (ms : List (Str × Nat)) : Prop where
  rw : rowOk row tail cls kind = true
  sg : PyData.strOk (sl (row ++ tail)) = true
  vl : isPlain 7 val = true
  kd : ∀ k, kind = some k → PyData.strOk k = true
  ln : ms.length ≤ 2
  mks : ∀ m ∈ ms, PyData.strOk m.1 = true ∧ m.2 < row.length
  asc : ms.Pairwise fun a b => a.2 < b.2
  nn : kind = none → ∃ c, c ∈ bads ∧ row = [c] ∧ tail = [] ∧ ms = ([("bad_character", 0)] : List (Str × Nat))
noncomputable def dfB (row tail : List Nat) (cls : Nat) (k : Option Str) (val : AV) : Bool := (rowOk row tail cls k && PyData.strOk (sl (row ++ tail))) && isPlain 7 val && (match k with
  | some k => PyData.strOk k
  | none => true)
theorem df_of {row tail : List Nat} {cls : Nat} {k : Str} {val : AV} (h : dfB row tail cls (some k) val = true) {ms : List (Str × Nat)} (h1 : ms.length ≤ 2) (h2 : ∀ m ∈ ms, PyData.strOk m.1 = true ∧ m.2 < row.length) (h3 : ms.Pairwise fun a b => a.2 < b.2) : DF row tail cls (some k) val ms := by
  simp only [dfB, Bool.and_eq_true] at h
  exact ⟨h.1.1.1, h.1.1.2, h.1.2, fun k' e => (by cases e; exact h.2), h1, h2, h3, fun e => (by cases e)⟩
theorem df_none {row tail : List Nat} {cls : Nat} {k : Str} {val : AV} (h : dfB row tail cls (some k) val = true) : DF row tail cls (some k) val [] := df_of h (by simp) (fun _ z => nomatch z) .nil
theorem df_one {row tail : List Nat} {cls : Nat} {k : Str} {val : AV} (h : dfB row tail cls (some k) val = true) {c : Str} (hc : PyData.strOk c = true) : DF row tail cls (some k) val [(c, 0)] := by
  refine df_of h (by simp) (fun m hm => ?_) (List.pairwise_singleton _ _)
  cases List.mem_singleton.mp hm
  refine ⟨hc, ?_⟩
  cases row with
  | nil => simp [dfB, rowOk] at h
  | cons _ _ => simp
theorem df_ident : ∀ s ∈ idents, dfB (cd s) [] 1 (some "ident") (.str (sl (cd s))) = true := by decide +kernel
theorem df_kws : ∀ s ∈ kws, dfB (cd s) [] 1 (some (sl (cd s))) (.str "") = true := by decide +kernel
theorem df_num : ∀ x ∈ nums, dfB (cd x.1) [] 1 (some "int") (.int x.2) = true := by decide +kernel
theorem df_text : ∀ v ∈ txts, dfB (34 :: (v ++ [34])) [] 0 (some "string") (.str (sl v)) = true := by decide +kernel
theorem df_chr : ∀ a ∈ List.range 16, ∀ b ∈ List.range 16, dfB [48, hxd a, hxd b, 88] [] 1 (some "string") (.str ⟨#[16 * a + b]⟩) = true := by decide +kernel
theorem df_sgn : ∀ s ∈ sgns, dfB (cd s) [] 2 (some (sl (cd s))) (.str "") = true := by decide +kernel
theorem df_bad : ∀ c ∈ bads, dfB [c] [] 0 none .none = true := by decide +kernel
theorem df_bch : ∀ s ∈ bchs, dfB (cd s) [] 1 (some "string") (.str ⟨#[0]⟩) = true := by decide +kernel
theorem df_big : ∀ s ∈ bigs, dfB (cd s) [] 1 (some "int") (.int 0) = true := by decide +kernel
theorem df_real : ∀ s ∈ reals, dfB (cd s) [] 1 (some "int") (.int 0) = true := by decide +kernel
theorem df_btxt : dfB [34, 97, 256, 98, 1000, 34] [] 0 (some "string") (.str (sl [97, 98])) = true := by decide +kernel
theorem df_utxt : dfB [34, 97, 32, 40, 42, 32, 98] [10] 0 (some "string") (.str (sl [97, 32, 40, 42, 32, 98])) = true := by decide +kernel
theorem ok_codes : PyData.strOk "bad_character" = true ∧ PyData.strOk "bad_char" = true ∧ PyData.strOk "number_too_large" = true ∧ PyData.strOk "reals_left_out" = true ∧ PyData.strOk "unfinished_string" = true ∧ PyData.strOk "unfinished_comment" = true ∧ PyData.strOk "eof" = true ∧ PyData.strOk "" = true := by decide +kernel
theorem Drawn.df {row tail : List Nat} {cls : Nat} {k : Option Str} {val : AV} {ms : List (Str × Nat)} (D : Drawn row tail cls k val ms) : DF row tail cls k val ms := by
  obtain ⟨o1, o2, o3, o4, o5, _, _, _⟩ := ok_codes
  cases D with
  | ident h => exact df_none (df_ident _ h)
  | word h => exact df_none (df_kws _ h)
  | num h => exact df_none (df_num _ h)
  | text h => exact df_none (df_text _ h)
  | @chr k h =>
    have := df_chr (k / 16) (List.mem_range.mpr (by omega)) (k % 16) (List.mem_range.mpr (by omega))
    rw [show 16 * (k / 16) + k % 16 = k by omega] at this
    exact df_none this
  | sgn h => exact df_none (df_sgn _ h)
  | @bad c h =>
    have := df_bad _ h
    simp only [dfB, Bool.and_eq_true] at this
    refine ⟨this.1.1.1, this.1.1.2, this.1.2, fun _ e => (by cases e), by simp, fun m hm => ?_, List.pairwise_singleton _ _, fun _ => ⟨c, h, rfl, rfl, rfl⟩⟩
    cases List.mem_singleton.mp hm
    exact ⟨o1, by simp⟩
  | bch h => exact df_one (df_bch _ h) o2
  | big h => exact df_one (df_big _ h) o3
  | real h => exact df_one (df_real _ h) o4
  | btxt =>
    refine df_of df_btxt (by simp) (fun m hm => ?_) (by simp)
    simp only [List.mem_cons, List.not_mem_nil, or_false] at hm
    rcases hm with rfl | rfl <;> exact ⟨o1, by decide⟩
  | utxt => exact df_one df_utxt o5
noncomputable def Pre (wide : List Nat) (due : List (Str × AV × Nat)) (fs : List (Nat × Str)) (last : Nat) : Prop :=
  ∀ (N : Nat) (rest : List Nat) (due' : List (Str × AV × Nat)) (ms' : List (Nat × Str)), N = wide.length + rest.length → (last = 1 → adjW rest[0]? = true) → (last = 2 → adjM rest[0]? = true) → Scan N rest due' ms' → Scan N (wide ++ rest) (due ++ due') (fs ++ ms')
theorem pre_nil : Pre [] [] [] 0 := fun _ _ _ _ _ _ _ h => h
noncomputable def dueOf (k : Option Str) (val : AV) (p : Nat) : List (Str × AV × Nat) := match k with
  | none => []
  | some k => [(k, val, p)]
noncomputable def fltOf (ms : List (Str × Nat)) (p : Nat) : List (Nat × Str) := ms.map fun m => (p + m.2, m.1)
theorem pc_hd : ∀ p ∈ pcs, p ≠ [] ∧ adjW p[0]? = true ∧ adjM p[0]? = true := by decide +kernel
theorem hd_ps {ps : List (List Nat)} (h0 : ps ≠ []) (hp : ∀ p ∈ ps, p ∈ pcs) (l : List Nat) : adjW (ps.flatten ++ l)[0]? = true ∧ adjM (ps.flatten ++ l)[0]? = true := by
  cases ps with
  | nil => exact absurd rfl h0
  | cons p ps =>
    obtain ⟨h1, h2, h3⟩ := pc_hd p (hp p (.head _))
    rw [List.flatten_cons, List.append_assoc, head_app h1]
    exact ⟨h2, h3⟩
theorem al_num : ∀ c, c < 128 → isAl (some c) = Txt.isalnum (sl [c]) := by decide +kernel
theorem al_lt {c : Nat} (h : isAl (some c) = true) : c < 128 := by
  simp only [isAl, isLet, isDig, Bool.or_eq_true, Bool.and_eq_true, decide_eq_true_eq] at h
  omega
theorem adjW_of {c : Nat} (h : hd0 c = false) (h46 : c ≠ 46) : adjW (some c) = true := by
  have : isAl (some c) = false := by
    cases e : isAl (some c) with
    | false => rfl
    | true =>
      have h1 := al_lt e
      rw [al_num c h1] at e
      simp [hd0, e, h1] at h
  simp [adjW, this, h46]
theorem pre_step {wide : List Nat} {due : List (Str × AV × Nat)} {fs : List (Nat × Str)} {last : Nat} (h : Pre wide due fs last) {row tail : List Nat} {cls : Nat} {kind : Option Str} {val : AV} {ms : List (Str × Nat)} (D : Drawn row tail cls kind val ms) {ps : List (List Nat)} (hps : ∀ p ∈ ps, p ∈ pcs) {must : Bool} (hm : must = true → ps ≠ [])
    (h1 : last = 1 → must = false → cls ≠ 1 ∧ row[0]? ≠ some 46) (h2 : last = 2 → must = false → cls ≠ 2) :
    Pre (wide ++ ps.flatten ++ (row ++ tail)) (due ++ dueOf kind val (wide.length + ps.flatten.length)) (fs ++ fltOf ms (wide.length + ps.flatten.length)) cls := by
  intro N rest due' ms' hN ha hb hs
  have F := D.df
  have hrw := F.rw
  obtain ⟨c, t, rfl⟩ : ∃ c t, row = c :: t := by
    cases row with
    | nil => cases hrw
    | cons c t => exact ⟨c, t, rfl⟩
  simp only [rowOk, Bool.and_eq_true, Bool.or_eq_true, beq_iff_eq, decide_eq_true_eq] at hrw
  obtain ⟨⟨⟨⟨⟨r1, r2⟩, r3⟩, r4⟩, r5⟩, r6⟩ := hrw
  have hs2 : Scan N (tail ++ rest) due' ms' := by
    rcases r5 with rfl | ⟨rfl, _⟩
    · exact hs
    · have := scan_gap (ps := [[10]]) hs (by decide)
      simpa using this
  have tok : Scan N ((c :: t) ++ (tail ++ rest)) (dueOf kind val (wide.length + ps.flatten.length) ++ due') (fltOf ms (wide.length + ps.flatten.length) ++ ms') := by
    have hpos : N - ((c :: t) ++ (tail ++ rest)).length = wide.length + ps.flatten.length := by
      rw [hN]; simp only [List.length_append]; omega
    cases kind with
    | some k =>
      have T : TokSem (c :: t) (tail ++ rest) k val ms := by
        refine drawn_sem D (fun e => ?_) (fun e => ?_) (fun e => by rw [e]; rfl)
        · rcases r5 with rfl | ⟨rfl, z⟩
          · exact ha e
          · omega
        · rcases r5 with rfl | ⟨rfl, z⟩
          · exact hb e
          · omega
      have := Scan.tok (N := N) (.stop (fun d hd => T.gt d (by rw [head_app T.ne] at hd; exact hd)) T.np) T hs2
      rw [hpos] at this
      exact this
    | none =>
      obtain ⟨c', hc', e1, e2, e3⟩ := F.nn rfl
      cases e1
      subst e2 e3
      obtain ⟨b1, b2, b3, b4, b5, b6, b7, b8⟩ := bad_ok c hc'
      have := Scan.bad (N := N) (l := c :: ([] ++ rest)) (.stop (fun d hd => (by cases hd; exact b5)) (fun z => b6 (Option.some.inj z.1))) (bad_bad hc' _) hs2
      rw [show N - (([] ++ rest : List Nat).length + 1) = wide.length + ps.flatten.length by rw [← hpos]; simp] at this
      simpa [dueOf, fltOf] using this
  have g := scan_gap tok hps
  have := h N (ps.flatten ++ ((c :: t) ++ (tail ++ rest))) _ _ (by rw [hN]; simp only [List.length_append]; omega) (fun e => ?_) (fun e => ?_) g
  · simpa only [List.append_assoc] using this
  · by_cases z : ps = []
    · subst z
      have hmf : must = false := by
        cases must with
        | false => rfl
        | true => exact absurd rfl (hm rfl)
      obtain ⟨k1, k2⟩ := h1 e hmf
      refine adjW_of (c := c) ?_ fun z => k2 (by rw [z]; rfl)
      rw [r1]; exact beq_eq_false_iff_ne.mpr k1
    · exact (hd_ps z hps _).1
  · by_cases z : ps = []
    · subst z
      have hmf : must = false := by
        cases must with
        | false => rfl
        | true => exact absurd rfl (hm rfl)
      have k := h2 e hmf
      rcases r2 with r2 | r2
      · exact absurd r2 k
      · exact r2
    · exact (hd_ps z hps _).2
noncomputable def unf : List Nat := cd " (* (* a *) * ) ("
theorem unf_eq : unf = [32, 40, 42, 32, 40, 42, 32, 97, 32, 42, 41, 32, 42, 32, 41, 32, 40] := by decide
theorem pre_end {wide : List Nat} {due : List (Str × AV × Nat)} {fs : List (Nat × Str)} {last : Nat} (h : Pre wide due fs last) {ps : List (List Nat)} (hps : ∀ p ∈ ps, p ∈ pcs) : Scan (wide ++ ps.flatten).length (wide ++ ps.flatten) due fs := by
  have g := scan_gap (scan_nil (N := (wide ++ ps.flatten).length)) hps
  rw [List.append_nil] at g
  have hd : adjW ps.flatten[0]? = true ∧ adjM ps.flatten[0]? = true := by
    by_cases z : ps = []
    · subst z; decide
    · have := hd_ps z hps []; rwa [List.append_nil] at this
  have := h _ _ _ _ (by rw [List.length_append]) (fun _ => hd.1) (fun _ => hd.2) g
  simpa using this
theorem pre_end2 {wide : List Nat} {due : List (Str × AV × Nat)} {fs : List (Nat × Str)} {last : Nat} (h : Pre wide due fs last) {ps : List (List Nat)} (hps : ∀ p ∈ ps, p ∈ pcs) : Scan (wide ++ ps.flatten ++ unf).length (wide ++ ps.flatten ++ unf) due (fs ++ ([((wide ++ ps.flatten).length + 1, "unfinished_comment")] : List (Nat × Str))) := by
  have hg : Gap unf [] (some 16) := by
    rw [unf_eq]
    exact .blank (by decide) (.unf (.oth (by simp) (by simp) (.opn (.oth (by simp) (by simp) (.oth (by simp) (by simp) (.oth (by simp) (by simp) (.cls (.oth (by simp) (by simp) (.oth (by simp) (by simp) (.oth (by simp) (by simp) (.oth (by simp) (by simp) (.oth (by simp) (by simp) (.oth (by simp) (by simp) (.nil 0))))))))))))))
  have g := scan_gap (.fin (N := (wide ++ ps.flatten ++ unf).length) hg) hps
  have hl : unf.length = 17 := by rw [unf_eq]; rfl
  have hd : adjW (ps.flatten ++ unf)[0]? = true ∧ adjM (ps.flatten ++ unf)[0]? = true := by
    by_cases z : ps = []
    · subst z; rw [unf_eq]; decide
    · exact hd_ps z hps _
  have := h _ _ _ _ (by simp only [List.length_append]; omega) (fun _ => hd.1) (fun _ => hd.2) g
  rw [List.append_nil, ← List.append_assoc] at this
  rw [show (wide ++ ps.flatten).length + 1 = (wide ++ ps.flatten ++ unf).length - 16 by simp only [List.length_append, hl]; omega]
  exact this
end Mine
end
section
set_option maxRecDepth 20000
namespace Mine
theorem plain_eqv {a : AV} (h : isPlain 8 a = true) : PyData.eqv (toPy a) (toPy a) = true := PySem.SeqAt.eqv_refl _ (lay_of 8 a h).1
theorem eqv_nil (l : List AV) : PyData.eqv (toPy (.lst l)) (toPy (.lst [])) = decide (l = []) := by
  cases l <;> simp [toPy, toPys, PyData.eqv, PyData.eqvAll]
theorem eqv_bool (a b : Bool) : PyData.eqv (toPy (.bool a)) (toPy (.bool b)) = (a == b) := by simp [toPy, PyData.eqv]
theorem plain_mkr {fs : List (Nat × Str)} (h : ∀ m ∈ fs, PyData.strOk m.2 = true) : isPlain 8 (.lst (mkr fs)) = true := by
  show (mkr fs).all (isPlain 7) = true
  rw [List.all_eq_true]
  intro a ha
  obtain ⟨m, hm, rfl⟩ := List.mem_map.mp ha
  have := h m hm
  show [AV.int (m.1 : Int), .str m.2].all (isPlain 6) = true
  simp only [List.all_cons, List.all_nil, isPlain, this, Bool.and_self]
theorem plain_mk1 {p : Nat} {c : Str} (h : PyData.strOk c = true) : isPlain 8 (mk1 p c) = true := by
  show [AV.int (p : Int), .str c].all (isPlain 7) = true
  simp only [List.all_cons, List.all_nil, isPlain, h, Bool.and_self]
theorem firsts_mkr : ∀ fs : List (Nat × Str), firsts (mkr fs) = some (fs.map fun m => (m.1 : Int))
  | [] => rfl
  | m :: fs => by
    have := firsts_mkr fs
    show (firsts (mkr fs)).map _ = _
    rw [this]; rfl
theorem mkr_append (a b : List (Nat × Str)) : mkr (a ++ b) = mkr a ++ mkr b := List.map_append
theorem mkr_len (a : List (Nat × Str)) : (mkr a).length = a.length := List.length_map _
section
variable {hp : List AO} {k : Bool → Prop}
theorem cmp_ol_ne {j : Nat} {l m : List AV} (h : hp[j]? = some (.list l)) : Cmp hp .NotEq (.obj j) (.lst m) k = ((isPlain 8 (.lst l) = true ∧ isPlain 8 (.lst m) = true) ∧ k (!PyData.eqv (toPy (.lst l)) (toPy (.lst m)))) := by simp [Cmp, view, h]
theorem cmp_ol {j : Nat} {l m : List AV} (h : hp[j]? = some (.list l)) : Cmp hp .Eq (.obj j) (.lst m) k = ((isPlain 8 (.lst l) = true ∧ isPlain 8 (.lst m) = true) ∧ k (PyData.eqv (toPy (.lst l)) (toPy (.lst m)))) := by simp [Cmp, view, h]
theorem cmp_oo {i j : Nat} {l m : List AV} (hi : hp[i]? = some (.list l)) (hj : hp[j]? = some (.list m)) : Cmp hp .Eq (.obj i) (.obj j) k = ((isPlain 8 (.lst l) = true ∧ isPlain 8 (.lst m) = true) ∧ k (PyData.eqv (toPy (.lst l)) (toPy (.lst m)))) := by simp [Cmp, view, hi, hj]
theorem cmp_bb {a b : Bool} : Cmp hp .Eq (.bool a) (.bool b) k = ((True ∧ True) ∧ k (a == b)) := by simp [Cmp, view, isPlain, eqv_bool]
theorem cmp_nn : Cmp hp .Eq .none .none k = ((True ∧ True) ∧ k true) := by simp [Cmp, view, isPlain, toPy, PyData.eqv]
theorem cmp_tt {l m : List AV} : Cmp hp .Eq (.tup l) (.tup m) k = ((isPlain 8 (.tup l) = true ∧ isPlain 8 (.tup m) = true) ∧ k (PyData.eqv (toPy (.tup l)) (toPy (.tup m)))) := rfl
theorem cmp_tt_ne {l m : List AV} : Cmp hp .NotEq (.tup l) (.tup m) k = ((isPlain 8 (.tup l) = true ∧ isPlain 8 (.tup m) = true) ∧ k (!PyData.eqv (toPy (.tup l)) (toPy (.tup m)))) := rfl
end
noncomputable def irEnd : IS := (.seq (.set 17 (.ite (.cmp .NotEq (.loc 4) (.lst .nil)) (.idx (.sorted (.loc 4)) (.int 0)) .none))
  (.seq (.ret (.and (.cmp .Eq (.attr 13 6) (.loc 4)) (.and (.cmp .Eq (.meth aErrorList aFirst (.loc 13) .nil) (.loc 17)) (.cmp .Eq (.meth aErrorList aOk (.loc 13) .nil) (.cmp .Eq (.loc 4) (.lst .nil))))))
  .skip))
noncomputable def wd (x : List Nat) : Wd := ⟨sl x, 8, 5, 6, 7⟩
theorem mkr_nil (fs : List (Nat × Str)) : decide (mkr fs = []) = decide (fs = []) := by cases fs <;> rfl
section
variable {G : Gl}
theorem lawEnd (O : Ok G) {hp : List AO} {x : List Nat} {q : Nat} {fs : List (Nat × Str)} {ks : List Int} (S : Sc (wd x) q (mkr fs) ks hp) (h4 : hp[4]? = some (.list (mkr fs))) (asc : fs.Pairwise fun a b => a.1 < b.1) (ok : ∀ m ∈ fs, PyData.strOk m.2 = true) (len : fs.length < 64) {o0 o3 o5 o6 o7 o8 o9 o10 o11 o12 o15 o16 : Option AV} :
    vS G 40 irEnd ⟨[o0, some (.obj 2), none, o3, some (.obj 4), o5, o6, o7, o8, o9, o10, o11, o12, some (.obj 5), some (.obj 8), o15, o16, none, none, none, none, none, none, none, none, none, none, none], hp⟩ (fun fl _ => retOf fl = .bool true) := by
  unfold irEnd
  have pl := plain_mkr ok
  have h5 : hp[5]? = some (erl 6 7) := S.e
  have h6 : hp[6]? = some (.list (mkr fs)) := S.r
  have hf := firsts_mkr fs
  have hpw : (fs.map fun m => (m.1 : Int)).Pairwise (· < ·) := by
    rw [List.pairwise_map]
    exact asc.imp fun h => by omega
  have fin : ∀ v, ((fs = [] ∧ v = AV.none) ∨ ∃ m r, fs = m :: r ∧ v = mk1 m.1 m.2) → vS G 40 ((.seq (.ret (.and (.cmp .Eq (.attr 13 6) (.loc 4)) (.and (.cmp .Eq (.meth aErrorList aFirst (.loc 13) .nil) (.loc 17)) (.cmp .Eq (.meth aErrorList aOk (.loc 13) .nil) (.cmp .Eq (.loc 4) (.lst .nil))))))
  .skip)) ⟨[o0, some (.obj 2), none, o3, some (.obj 4), o5, o6, o7, o8, o9, o10, o11, o12, some (.obj 5), some (.obj 8), o15, o16, some v, none, none, none, none, none, none, none, none, none, none], hp⟩ (fun fl _ => retOf fl = .bool true) := by
    intro v hv
    refine sq_ret ?_
    simp only [vE, vT, vA, onLoc, onStr, onLst, onInt, onTup, onList, onB, Bin, small, goOn, retOf, turnEnd, List.map_cons, List.map_nil, List.append_nil, List.cons_append, List.nil_append, List.replicate, List.getElem?_cons_zero, List.getElem?_cons_succ, List.set_cons_zero, List.set_cons_succ, List.length_cons, List.length_nil, List.length_append, Nat.zero_add, Nat.reduceAdd, Nat.add_zero, at_row h5, cmp_oo h6 h4, plain_eqv pl, pl]
    refine ⟨⟨trivial, trivial⟩, fork_t ?_⟩
    simp only [vE, vT, vA, onLoc, onStr, onLst, onInt, onTup, onList, onB, Bin, small, goOn, retOf, turnEnd, List.map_cons, List.map_nil, List.append_nil, List.cons_append, List.nil_append, List.replicate, List.getElem?_cons_zero, List.getElem?_cons_succ, List.set_cons_zero, List.set_cons_succ, List.length_cons, List.length_nil, List.length_append, Nat.zero_add, Nat.reduceAdd, Nat.add_zero, on_erl h5]
    have okk : onInst hp (.obj 5) aErrorList fun i => TF G 40 aOk [.obj i] hp fun r hp' => 0 ≤ sizeLine ∧ Cmp hp' .Eq (.obj 4) (.lst []) fun b => Cmp hp' .Eq r (.bool b) fun c => AV.bool c = .bool true := by
      rw [on_erl h5]
      refine c_ok O (w := wd x) (by omega) S (by rw [mkr_len]; omega) ?_
      refine ⟨Nat.zero_le _, ?_⟩
      rw [cmp_ol h4, eqv_nil, mkr_nil, cmp_bb, mkr_len]
      refine ⟨⟨pl, rfl⟩, ⟨trivial, trivial⟩, ?_⟩
      cases fs with
      | nil => rfl
      | cons m r =>
        have : (((m :: r).length : Int) == 0) = false := beq_eq_false_iff_ne.mpr (by simp only [List.length_cons]; omega)
        rw [this]; rfl
    refine c_first O (w := wd x) (by omega) S hf hpw (by rw [mkr_len]; exact len) (fun e => ?_) (fun v' r' e => ?_)
    · rcases hv with ⟨e1, rfl⟩ | ⟨m, r, e1, rfl⟩
      · rw [cmp_nn]
        refine ⟨⟨trivial, trivial⟩, fork_t ?_⟩
        exact okk
      · subst e1; cases e
    · rcases hv with ⟨e1, rfl⟩ | ⟨m, r, e1, rfl⟩
      · subst e1; cases e
      · subst e1
        cases e
        have pm := plain_mk1 (p := m.1) (ok m (.head _))
        show Cmp hp .Eq (mk1 m.1 m.2) (mk1 m.1 m.2) _
        unfold mk1 at pm ⊢
        rw [cmp_tt, plain_eqv pm]
        refine ⟨⟨pm, pm⟩, fork_t ?_⟩
        exact okk
  refine sq_set ?_
  simp only [vE, vT, vA, onLoc, onStr, onLst, onInt, onTup, onList, onB, Bin, small, goOn, retOf, turnEnd, List.map_cons, List.map_nil, List.append_nil, List.cons_append, List.nil_append, List.replicate, List.getElem?_cons_zero, List.getElem?_cons_succ, List.set_cons_zero, List.set_cons_succ, List.length_cons, List.length_nil, List.length_append, Nat.zero_add, Nat.reduceAdd, Nat.add_zero, cmp_ol_ne h4, eqv_nil, mkr_nil, pl]
  refine ⟨Nat.zero_le _, ⟨trivial, rfl⟩, fun e => ?_, fun e => ?_⟩
  · have e : fs ≠ [] := by simpa using e
    obtain ⟨m, r, rfl⟩ : ∃ m r, fs = m :: r := by
      cases fs with
      | nil => exact absurd rfl e
      | cons m r => exact ⟨m, r, rfl⟩
    simp only [vE, vT, vA, onLoc, onStr, onLst, onInt, onTup, onList, onB, Bin, small, goOn, retOf, turnEnd, List.map_cons, List.map_nil, List.append_nil, List.cons_append, List.nil_append, List.replicate, List.getElem?_cons_zero, List.getElem?_cons_succ, List.set_cons_zero, List.set_cons_succ, List.length_cons, List.length_nil, List.length_append, Nat.zero_add, Nat.reduceAdd, Nat.add_zero, Sorted, seqOf, h4, Idx]
    refine ⟨⟨_, hf, hpw, by rw [mkr_len]; simp, by rw [mkr_len]; exact len⟩, ⟨by decide, by decide⟩, mk1 m.1 m.2, rfl, ?_⟩
    exact fin _ (.inr ⟨m, r, rfl, rfl⟩)
  · have e : fs = [] := by simpa using e
    exact fin _ (.inl ⟨e, rfl⟩)
end
end Mine
end
section
set_option maxRecDepth 20000
namespace Mine
noncomputable def dueAV (due : List (Str × AV × Nat)) : List AV := due.map fun d => .tup [.str d.1, d.2.1, .int (d.2.2 : Int)]
noncomputable def irTake : IS := (.seq (.forL 15 (.ladd (.loc 3) (.lmul (.cons (.tup (.cons (.str "eof") (.cons (.str "") (.cons (.len (.cel 0)) .nil)))) .nil) 2)) (.seq (.set 16 (.meth aScanner aTake (.loc 14) .nil))
  (.seq (.ife (.cmp .NotEq (.tup (.cons (.attr 16 4) (.cons (.attr 16 5) (.cons (.attr 16 2) .nil)))) (.loc 15)) (.seq (.ret (.bool false))
  .skip) .skip)
  .skip)))
  (.seq (.set 17 (.ite (.cmp .NotEq (.loc 4) (.lst .nil)) (.idx (.sorted (.loc 4)) (.int 0)) .none))
  (.seq (.ret (.and (.cmp .Eq (.attr 13 6) (.loc 4)) (.and (.cmp .Eq (.meth aErrorList aFirst (.loc 13) .nil) (.loc 17)) (.cmp .Eq (.meth aErrorList aOk (.loc 13) .nil) (.cmp .Eq (.loc 4) (.lst .nil))))))
  .skip)))
noncomputable def eofAV (n : Nat) : AV := .tup [.str "eof", .str "", .int (n : Int)]
theorem plain_tok {kind : Str} {val : AV} {q : Nat} (h1 : PyData.strOk kind = true) (h2 : isPlain 7 val = true) : isPlain 8 (.tup [.str kind, val, .int (q : Int)]) = true := by
  show [AV.str kind, val, .int (q : Int)].all (isPlain 7) = true
  simp only [List.all_cons, List.all_nil, h2, show isPlain 7 (.str kind) = PyData.strOk kind from rfl, h1, isPlain, Bool.and_self]
theorem symb_nn : symb none none = PySem.Str.ofString "" := by decide +kernel
inductive TlI (x : List Nat) (due : List (Str × AV × Nat)) (fs : List (Nat × Str)) (hp : List AO) (o0 o5 o6 o7 o8 o9 o10 o11 o12 : Option AV) (k : Nat) : ASt → Prop
  | mk (q : Nat) (l : List Nat) (ms : List (Nat × Str)) (rows : List AV) (ks : List Int) (hp' : List AO) (o15 o16 : Option AV) (hA : At x q l) (hs : Scan x.length l (due.drop k) ms) (hr : rows ++ mkr ms = mkr fs) (hkl : ks.length + ms.length ≤ fs.length + k) (hk : ∀ j ∈ ks, j < (q : Int)) (S : Sc (wd x) q rows ks hp') (N : Nx (wd x) hp hp') (hz : due.length < k → ms = []) :
      TlI x due fs hp o0 o5 o6 o7 o8 o9 o10 o11 o12 k ⟨[o0, some (.obj 2), none, some (.obj 3), some (.obj 4), o5, o6, o7, o8, o9, o10, o11, o12, some (.obj 5), some (.obj 8), o15, o16, none, none, none, none, none, none, none, none, none, none, none], hp'⟩
section
variable {G : Gl}
theorem tok_eq {hp : List AO} {kind : Str} {val : AV} {q : Nat} (h1 : PyData.strOk kind = true) (h2 : isPlain 7 val = true) {a0 a1 a2 a3 a4 a5 a6 a7 a8 a9 a10 a11 a12 a13 a14 : Option AV} {tl : List (Option AV)} {Q : AFl → ASt → Prop}
    (h : Q .next ⟨a0 :: a1 :: a2 :: a3 :: a4 :: a5 :: a6 :: a7 :: a8 :: a9 :: a10 :: a11 :: a12 :: a13 :: a14 :: some (.tup [.str kind, val, .int (q : Int)]) :: some (.obj hp.length) :: tl, hp ++ [tok (.str kind) val (q : Int)]⟩) :
    vS G 40 (.seq (.ife (.cmp .NotEq (.tup (.cons (.attr 16 4) (.cons (.attr 16 5) (.cons (.attr 16 2) .nil)))) (.loc 15)) (.seq (.ret (.bool false)) .skip) .skip) .skip) ⟨a0 :: a1 :: a2 :: a3 :: a4 :: a5 :: a6 :: a7 :: a8 :: a9 :: a10 :: a11 :: a12 :: a13 :: a14 :: some (.tup [.str kind, val, .int (q : Int)]) :: some (.obj hp.length) :: tl, hp ++ [tok (.str kind) val (q : Int)]⟩ Q := by
  have pl := plain_tok (q := q) h1 h2
  refine sq_ife ?_
  simp only [vE, vT, vA, onLoc, onStr, onLst, onInt, onTup, onList, onB, Bin, small, goOn, retOf, turnEnd, List.map_cons, List.map_nil, List.append_nil, List.cons_append, List.nil_append, List.replicate, List.getElem?_cons_zero, List.getElem?_cons_succ, List.set_cons_zero, List.set_cons_succ, List.length_cons, List.length_nil, List.length_append, Nat.zero_add, Nat.reduceAdd, Nat.add_zero, at_kind at_len, at_val at_len, at_tplc at_len, cmp_tt_ne, plain_eqv pl, pl]
  refine ⟨by decide, ⟨trivial, trivial⟩, ?_⟩
  refine fork_f ?_
  refine sq_skip ?_
  simp only [vE, vT, vA, onLoc, onStr, onLst, onInt, onTup, onList, onB, Bin, small, goOn, retOf, turnEnd, List.map_cons, List.map_nil, List.append_nil, List.cons_append, List.nil_append, List.replicate, List.getElem?_cons_zero, List.getElem?_cons_succ, List.set_cons_zero, List.set_cons_succ, List.length_cons, List.length_nil, List.length_append, Nat.zero_add, Nat.reduceAdd, Nat.add_zero]
  refine sq_skip ?_
  exact h
theorem lawTake (O : Ok G) {hp : List AO} {x : List Nat} {due : List (Str × AV × Nat)} {fs : List (Nat × Str)} (hS : Scan x.length x due fs) (hlen : x.length ≤ 2000) (S0 : Sc (wd x) 0 [] [] hp) (h0 : hp[0]? = some (.cell (some (.str (sl x))))) (h3 : hp[3]? = some (.list (dueAV due))) (h4 : hp[4]? = some (.list (mkr fs)))
    (h9 : 9 ≤ hp.length) (dp : ∀ d ∈ due, PyData.strOk d.1 = true ∧ isPlain 7 d.2.1 = true) (dl : due.length ≤ 10) (asc : fs.Pairwise fun a b => a.1 < b.1) (ok : ∀ m ∈ fs, PyData.strOk m.2 = true) (len : fs.length < 64) {o0 o5 o6 o7 o8 o9 o10 o11 o12 : Option AV} :
    vS G 40 irTake ⟨[o0, some (.obj 2), none, some (.obj 3), some (.obj 4), o5, o6, o7, o8, o9, o10, o11, o12, some (.obj 5), some (.obj 8), none, none, none, none, none, none, none, none, none, none, none, none, none], hp⟩ (fun fl _ => retOf fl = .bool true) := by
  unfold irTake
  have hd : (dueAV due).length = due.length := List.length_map _
  have hsz : sizeLine = 16777216 := sizeLine_eq
  have hrep : (List.replicate (2 : Int).toNat [AV.tup [AV.str (PySem.Str.ofString "eof"), AV.str (PySem.Str.ofString ""), AV.int ((sl x).length : Int)]]).flatten = [eofAV x.length, eofAV x.length] := by rw [sl_length]; rfl
  refine sq_forL ?_
  simp only [vE, vT, vA, onLoc, onStr, onLst, onInt, onTup, onList, onB, Bin, small, goOn, retOf, turnEnd, List.map_cons, List.map_nil, List.append_nil, List.cons_append, List.nil_append, List.replicate, List.getElem?_cons_zero, List.getElem?_cons_succ, List.set_cons_zero, List.set_cons_succ, List.length_cons, List.length_nil, List.length_append, Nat.zero_add, Nat.reduceAdd, Nat.add_zero, onCel, h0, Len]
  rw [hrep]
  simp only [vE, vT, vA, onLoc, onStr, onLst, onInt, onTup, onList, onB, Bin, small, goOn, retOf, turnEnd, List.map_cons, List.map_nil, List.append_nil, List.cons_append, List.nil_append, List.replicate, List.getElem?_cons_zero, List.getElem?_cons_succ, List.set_cons_zero, List.set_cons_succ, List.length_cons, List.length_nil, List.length_append, Nat.zero_add, Nat.reduceAdd, Nat.add_zero, LAdd, seqOf, h3]
  refine ⟨⟨by decide, by decide⟩, by rw [sl_length]; omega, by decide, ⟨by decide, by simp⟩, by rw [hd]; omega, ?_⟩
  refine ⟨TlI x due fs hp o0 o5 o6 o7 o8 o9 o10 o11 o12,
    ⟨0, x, fs, [], [], hp, none, none, ⟨rfl, Nat.zero_le _⟩, hS, rfl, by simp, (fun _ h => nomatch h), S0, .refl, fun z => absurd z (Nat.not_lt_zero _)⟩, ?_, ?_⟩
  · intro k a ha st1 hi
    obtain ⟨q, l, ms, rows, ks, hp1, o15, o16, hA, hs, hr, hkl, hk, S1, N1, hmz⟩ := hi
    have hk12 : k < due.length + 2 := by
      have := (List.getElem?_eq_some_iff.mp ha).1
      rw [List.length_append, hd] at this
      exact this
    have hrl : rows.length + ms.length = fs.length := by
      have := congrArg List.length hr
      rwa [List.length_append, mkr_len, mkr_len] at this
    have s8 : hp1[8]? = some (scn (sl x) 5 (q : Int)) := S1.s
    refine sq_set ?_
    simp only [vE, vT, vA, onLoc, onStr, onLst, onInt, onTup, onList, onB, Bin, small, goOn, retOf, turnEnd, List.map_cons, List.map_nil, List.append_nil, List.cons_append, List.nil_append, List.replicate, List.getElem?_cons_zero, List.getElem?_cons_succ, List.set_cons_zero, List.set_cons_succ, List.length_cons, List.length_nil, List.length_append, Nat.zero_add, Nat.reduceAdd, Nat.add_zero, on_scn s8]
    by_cases hlt : k < due.length
    · have ek : due.drop k = due[k] :: due.drop (k + 1) := List.drop_eq_getElem_cons hlt
      have ea : a = .tup [.str due[k].1, due[k].2.1, .int (due[k].2.2 : Int)] := by
        rw [List.getElem?_append_left (by rw [hd]; exact hlt)] at ha
        unfold dueAV at ha
        rw [List.getElem?_map, List.getElem?_eq_getElem hlt] at ha
        exact (Option.some.inj ha).symm
      obtain ⟨p1, p2⟩ := dp due[k] (List.getElem_mem hlt)
      generalize due[k] = d at *
      obtain ⟨kind, val, pos⟩ := d
      subst ea
      obtain ⟨row, rest, msL, tms, ms', hL, T, hs', hpos, hms⟩ := scan_step hs ek
      have hml : ms.length = msL.length + (tms.length + ms'.length) := by rw [hms]; simp
      refine c_take (n := 40) O (by omega) S1 (l := l) hA hL hk (by omega) (by omega) fun q2 ks2 hp2 hA2 hq2 hk2 hkl2 S2 N2 L2 => ?_
      have hp2 := At.pos (cs := x) hA2
      have eq : pos = q2 := by rw [hpos]; omega
      subst eq
      refine T.disp G O _ _ _ _ _ _ hA2 S2 hk2 (by rw [List.length_append, mkr_len]; omega) (by omega) (by show x.length ≤ _; omega) fun ks3 hp3 S3 hk3 hkl3 N3 => ?_
      refine tok_eq p1 p2 ?_
      refine ⟨_, rest, ms', _, ks3, _, _, _, At.app (cs := x) hA2, hs', ?_, by omega, hk3, S3.push _, (N1.trans N2).trans (N3.trans .push), fun z => by omega⟩
      rw [← hr, hms, mkr_append, mkr_append]
      simp only [List.append_assoc, mkr, List.map_map]
      rfl
    · have ek : due.drop k = [] := List.drop_eq_nil_of_le (by omega)
      have ek1 : due.drop (k + 1) = [] := List.drop_eq_nil_of_le (by omega)
      have ea : a = eofAV x.length := by
        rw [List.getElem?_append_right (by rw [hd]; omega), hd] at ha
        have : k - due.length = 0 ∨ k - due.length = 1 := by omega
        rcases this with e | e <;> rw [e] at ha <;> exact (Option.some.inj ha).symm
      subst ea
      have hL := scan_end hs ek
      refine c_take (n := 40) O (by omega) S1 (l := l) hA hL hk (by omega) (by omega) fun q2 ks2 hp2 hA2 hq2 hk2 hkl2 S2 N2 L2 => ?_
      have hp2 := At.pos (cs := x) hA2
      have eq : q2 = x.length := by simpa using hp2
      subst eq
      refine ⟨fun _ => ?_, fun z => (by cases z), fun z => (by cases z), fun z => (by cases z), fun _ _ _ z => absurd symb_nn z⟩
      refine tok_eq (by decide +kernel) (by decide +kernel) ?_
      refine ⟨_, [], [], _, ks2, _, _, _, hA2, by rw [ek1]; exact scan_nil, ?_, ?_, hk2, S2.push _, (N1.trans N2).trans .push, fun _ => rfl⟩
      · rw [show mkr [] = [] from rfl, List.append_nil]; exact hr
      · simp only [List.length_nil]; omega
  · intro st1 hi
    obtain ⟨q, l, ms, rows, ks, hp1, o15, o16, hA, hs, hr, hkl, hk, S1, N1, hmz⟩ := hi
    simp only [vE, vT, vA, onLoc, onStr, onLst, onInt, onTup, onList, onB, Bin, small, goOn, retOf, turnEnd, List.map_cons, List.map_nil, List.append_nil, List.cons_append, List.nil_append, List.replicate, List.getElem?_cons_zero, List.getElem?_cons_succ, List.set_cons_zero, List.set_cons_succ, List.length_cons, List.length_nil, List.length_append, Nat.zero_add, Nat.reduceAdd, Nat.add_zero]
    have hz : ms = [] := hmz (by rw [List.length_append, hd]; simp only [List.length_cons, List.length_nil]; omega)
    subst hz
    rw [show mkr [] = [] from rfl, List.append_nil] at hr
    subst hr
    have h4' : hp1[4]? = some (.list (mkr fs)) := (N1.2 4 (by omega) (show 4 ≠ 8 by decide) (show 4 ≠ 6 by decide) (show 4 ≠ 7 by decide)).trans h4
    exact lawEnd O S1 h4' asc ok len
end
end Mine
end
section
set_option maxRecDepth 20000
namespace Mine
section
variable {G : Gl} {n : Nat} {st : ASt} {P : AFl → ASt → Prop} {r : IS}
theorem sq_setC {i : Nat} {e : IE} (h : vE G n e st fun a st1 => isCel st1 i (vS G n r { st1 with heap := st1.heap.set i (.cell (some a)) } P)) : vS G n (.seq (.setC i e) r) st P := h
theorem sq_augC {i : Nat} {op : Operator} {e : IE} (h : onCel st i fun a => vE G n e st fun b st1 => Aug op a b fun v => isCel st1 i (vS G n r { st1 with heap := st1.heap.set i (.cell (some v)) } P)) : vS G n (.seq (.augC i op e) r) st P := h
theorem sq_ext {i : Nat} {e : IE} (h : onLoc st i fun a => vE G n e st fun b st1 => Ext st1.heap a b fun hp => vS G n r { st1 with heap := hp, env := st1.env.set i (some a) } P) : vS G n (.seq (.ext i e) r) st P := h
end
set_option genInjectivity false in
structure BI (hp : List AO) (wide : List Nat) (due : List (Str × AV × Nat)) (fs : List (Nat × Str)) : Prop where
  len : hp.length = 5
  pool : PoolAt hp 1 2
  h0 : hp[0]? = some (.cell (some (.str (sl wide))))
  h3 : hp[3]? = some (.list (dueAV due))
  h4 : hp[4]? = some (.list (mkr fs))
set_option genInjectivity false in
structure BP (k : Nat) (wide : List Nat) (due : List (Str × AV × Nat)) (fs : List (Nat × Str)) (last : Nat) : Prop where
  pre : Pre wide due fs last
  wl : wide.length ≤ 100 * k
  dl : due.length ≤ k
  fl : fs.length ≤ 2 * k
  asc : fs.Pairwise fun a b => a.1 < b.1
  bel : ∀ m ∈ fs, m.1 < wide.length
  ok : ∀ m ∈ fs, PyData.strOk m.2 = true
  dp : ∀ d ∈ due, PyData.strOk d.1 = true ∧ isPlain 7 d.2.1 = true
  lt : last < 3
section
variable {hp hp' : List AO} {wide wide' : List Nat} {due due' : List (Str × AV × Nat)} {fs fs' : List (Nat × Str)}
theorem PoolAt.set {j : Nat} {o : AO} (h : PoolAt hp 1 2) (h1 : j ≠ 1) (h2 : j ≠ 2) : PoolAt (hp.set j o) 1 2 := by
  obtain ⟨figs, k, m, e1, e2, e3⟩ := h
  exact ⟨figs, k, m, set_other e1 h1, set_other e2 h2, e3⟩
theorem BI.nb (B : BI hp wide due fs) (hP : PoolAt hp' 1 2) (hN : Nb 2 hp hp') : BI hp' wide due fs :=
  ⟨hN.1.trans B.len, hP, (hN.2 0 (by decide)).trans B.h0, (hN.2 3 (by decide)).trans B.h3, (hN.2 4 (by decide)).trans B.h4⟩
theorem BI.set0 (B : BI hp wide due fs) : BI (hp.set 0 (.cell (some (.str (sl wide'))))) wide' due fs :=
  ⟨by rw [List.length_set]; exact B.len, B.pool.set (by decide) (by decide), set_same B.h0, set_other B.h3 (by decide), set_other B.h4 (by decide)⟩
theorem BI.set3 (B : BI hp wide due fs) : BI (hp.set 3 (.list (dueAV due'))) wide due' fs :=
  ⟨by rw [List.length_set]; exact B.len, B.pool.set (by decide) (by decide), set_other B.h0 (by decide), set_same B.h3, set_other B.h4 (by decide)⟩
theorem BI.set4 (B : BI hp wide due fs) : BI (hp.set 4 (.list (mkr fs'))) wide due fs' :=
  ⟨by rw [List.length_set]; exact B.len, B.pool.set (by decide) (by decide), set_other B.h0 (by decide), set_other B.h3 (by decide), set_same B.h4⟩
end
theorem len5 {α : Type} {l : List α} (h : l.length = 5) : ∃ a b c d e, l = [a, b, c, d, e] := by
  match l, h with
  | [a, b, c, d, e], _ => exact ⟨a, b, c, d, e, rfl⟩
theorem len3 {α : Type} {l : List α} (h : l.length = 3) : ∃ a b c, l = [a, b, c] := by
  match l, h with
  | [a, b, c], _ => exact ⟨a, b, c, rfl⟩
noncomputable def irMid : IS := (.seq (.set 13 (.call aErrorList .nil))
  (.seq (.set 14 (.call aScanner (.cons (.cel 0) (.cons (.loc 13) .nil))))
  (.seq (.forL 15 (.ladd (.loc 3) (.lmul (.cons (.tup (.cons (.str "eof") (.cons (.str "") (.cons (.len (.cel 0)) .nil)))) .nil) 2)) (.seq (.set 16 (.meth aScanner aTake (.loc 14) .nil))
  (.seq (.ife (.cmp .NotEq (.tup (.cons (.attr 16 4) (.cons (.attr 16 5) (.cons (.attr 16 2) .nil)))) (.loc 15)) (.seq (.ret (.bool false))
  .skip) .skip)
  .skip)))
  (.seq (.set 17 (.ite (.cmp .NotEq (.loc 4) (.lst .nil)) (.idx (.sorted (.loc 4)) (.int 0)) .none))
  (.seq (.ret (.and (.cmp .Eq (.attr 13 6) (.loc 4)) (.and (.cmp .Eq (.meth aErrorList aFirst (.loc 13) .nil) (.loc 17)) (.cmp .Eq (.meth aErrorList aOk (.loc 13) .nil) (.cmp .Eq (.loc 4) (.lst .nil))))))
  .skip)))))
noncomputable def irGap : IS := (.seq (.augC 0 .Add (.call aGap (.cons (.loc 1) (.cons (.bool false) .nil))))
  (.seq (.ife (.cmp .Eq (.call aPick (.cons (.loc 1) (.cons (.int 4) .nil))) (.int 3)) (.seq (.exp (.app (.loc 4) (.tup (.cons (.bin .Add (.len (.cel 0)) (.int 1)) (.cons (.str "unfinished_comment") .nil)))))
  (.seq (.augC 0 .Add (.str " (* (* a *) * ) ("))
  .skip)) .skip)
  (.seq (.set 13 (.call aErrorList .nil))
  (.seq (.set 14 (.call aScanner (.cons (.cel 0) (.cons (.loc 13) .nil))))
  (.seq (.forL 15 (.ladd (.loc 3) (.lmul (.cons (.tup (.cons (.str "eof") (.cons (.str "") (.cons (.len (.cel 0)) .nil)))) .nil) 2)) (.seq (.set 16 (.meth aScanner aTake (.loc 14) .nil))
  (.seq (.ife (.cmp .NotEq (.tup (.cons (.attr 16 4) (.cons (.attr 16 5) (.cons (.attr 16 2) .nil)))) (.loc 15)) (.seq (.ret (.bool false))
  .skip) .skip)
  .skip)))
  (.seq (.set 17 (.ite (.cmp .NotEq (.loc 4) (.lst .nil)) (.idx (.sorted (.loc 4)) (.int 0)) .none))
  (.seq (.ret (.and (.cmp .Eq (.attr 13 6) (.loc 4)) (.and (.cmp .Eq (.meth aErrorList aFirst (.loc 13) .nil) (.loc 17)) (.cmp .Eq (.meth aErrorList aOk (.loc 13) .nil) (.cmp .Eq (.loc 4) (.lst .nil))))))
  .skip)))))))
section
variable {G : Gl}
theorem lawMid (O : Ok G) {hp : List AO} {x : List Nat} {due : List (Str × AV × Nat)} {fs : List (Nat × Str)} (hS : Scan x.length x due fs) (hlen : x.length ≤ 2000) (B : BI hp x due fs) (dp : ∀ d ∈ due, PyData.strOk d.1 = true ∧ isPlain 7 d.2.1 = true) (dl : due.length ≤ 10) (asc : fs.Pairwise fun a b => a.1 < b.1) (ok : ∀ m ∈ fs, PyData.strOk m.2 = true) (len : fs.length < 64) {o0 o5 o6 o7 o8 o9 o10 o11 o12 : Option AV} :
    vS G 40 irMid ⟨[o0, some (.obj 2), none, some (.obj 3), some (.obj 4), o5, o6, o7, o8, o9, o10, o11, o12, none, none, none, none, none, none, none, none, none, none, none, none, none, none, none], hp⟩ (fun fl _ => retOf fl = .bool true) := by
  unfold irMid
  obtain ⟨hl, _, h0, h3, h4⟩ := B
  obtain ⟨a, b, c, d, e, rfl⟩ := len5 hl
  ·
    refine sq_set ?_
    simp only [vE, vT, vA, onLoc, onStr, onLst, onInt, onTup, onList, onB, Bin, small, goOn, retOf, turnEnd, List.map_cons, List.map_nil, List.append_nil, List.cons_append, List.nil_append, List.replicate, List.getElem?_cons_zero, List.getElem?_cons_succ, List.set_cons_zero, List.set_cons_succ, List.length_cons, List.length_nil, List.length_append, Nat.zero_add, Nat.reduceAdd, Nat.add_zero]
    refine c_errors O (by omega) ?_
    simp only [vE, vT, vA, onLoc, onStr, onLst, onInt, onTup, onList, onB, Bin, small, goOn, retOf, turnEnd, List.map_cons, List.map_nil, List.append_nil, List.cons_append, List.nil_append, List.replicate, List.getElem?_cons_zero, List.getElem?_cons_succ, List.set_cons_zero, List.set_cons_succ, List.length_cons, List.length_nil, List.length_append, Nat.zero_add, Nat.reduceAdd, Nat.add_zero]
    refine sq_set ?_
    simp only [vE, vT, vA, onLoc, onStr, onLst, onInt, onTup, onList, onB, Bin, small, goOn, retOf, turnEnd, List.map_cons, List.map_nil, List.append_nil, List.cons_append, List.nil_append, List.replicate, List.getElem?_cons_zero, List.getElem?_cons_succ, List.set_cons_zero, List.set_cons_succ, List.length_cons, List.length_nil, List.length_append, Nat.zero_add, Nat.reduceAdd, Nat.add_zero, onCel]
    have ea : a = .cell (some (.str (sl x))) := Option.some.inj h0
    subst ea
    refine c_scanner O (by omega) ?_
    simp only [vE, vT, vA, onLoc, onStr, onLst, onInt, onTup, onList, onB, Bin, small, goOn, retOf, turnEnd, List.map_cons, List.map_nil, List.append_nil, List.cons_append, List.nil_append, List.replicate, List.getElem?_cons_zero, List.getElem?_cons_succ, List.set_cons_zero, List.set_cons_succ, List.length_cons, List.length_nil, List.length_append, Nat.zero_add, Nat.reduceAdd, Nat.add_zero]
    have := lawTake O (o0 := o0) (o5 := o5) (o6 := o6) (o7 := o7) (o8 := o8) (o9 := o9) (o10 := o10) (o11 := o11) (o12 := o12) (hp := [.cell (some (.str (sl x))), b, c, d, e, erl 6 7, .list [], .dict [], scn (sl x) 5 0]) hS hlen ⟨rfl, rfl, rfl, rfl, by show (sl x).length ≤ _; rw [sl_length]; omega⟩ rfl h3 h4 (Nat.le_refl 9) dp dl asc ok len
    exact this
theorem nl_eq : PySem.Str.ofString " (* (* a *) * ) (" = sl unf := by rw [unf, sl_cd]
theorem lawGap (O : Ok G) {hp : List AO} {wide : List Nat} {due : List (Str × AV × Nat)} {fs : List (Nat × Str)} {last : Nat} (B : BI hp wide due fs) (Q : BP 9 wide due fs last) {o0 o5 o6 o7 o8 o9 o10 o11 o12 : Option AV} :
    vS G 40 irGap ⟨[o0, some (.obj 2), none, some (.obj 3), some (.obj 4), o5, o6, o7, o8, o9, o10, o11, o12, none, none, none, none, none, none, none, none, none, none, none, none, none, none, none], hp⟩ (fun fl _ => retOf fl = .bool true) := by
  unfold irGap
  have hsz : sizeLine = 16777216 := sizeLine_eq
  have hu : unf.length = 17 := by rw [unf_eq]; rfl
  have hw := Q.wl
  have hdl := Q.dl
  have hfl := Q.fl
  refine sq_augC ?_
  simp only [vE, vT, vA, onLoc, onStr, onLst, onInt, onTup, onList, onB, Bin, small, goOn, retOf, turnEnd, List.map_cons, List.map_nil, List.append_nil, List.cons_append, List.nil_append, List.replicate, List.getElem?_cons_zero, List.getElem?_cons_succ, List.set_cons_zero, List.set_cons_succ, List.length_cons, List.length_nil, List.length_append, Nat.zero_add, Nat.reduceAdd, Nat.add_zero, onCel, B.h0]
  refine c_gap O (by omega) B.pool fun ps hp1 k1 _ k3 P1 N1 => ?_
  have B1 := B.nb P1 N1
  simp only [Aug, sl_append, sl_length, isCel, B1.h0]
  refine ⟨by omega, ?_⟩
  have B2 := B1.set0 (wide' := wide ++ ps.flatten)
  generalize hp1.set 0 (.cell (some (.str (sl (wide ++ ps.flatten))))) = hp2 at *
  have wl2 : (wide ++ ps.flatten).length ≤ 960 := by rw [List.length_append]; omega
  refine sq_ife ?_
  simp only [vE, vT, vA, onLoc, onStr, onLst, onInt, onTup, onList, onB, Bin, small, goOn, retOf, turnEnd, List.map_cons, List.map_nil, List.append_nil, List.cons_append, List.nil_append, List.replicate, List.getElem?_cons_zero, List.getElem?_cons_succ, List.set_cons_zero, List.set_cons_succ, List.length_cons, List.length_nil, List.length_append, Nat.zero_add, Nat.reduceAdd, Nat.add_zero]
  refine c_pick' O (by omega) (by decide) B2.pool fun v hp3 _ _ P3 N3 => ?_
  have B3 := B2.nb P3 N3
  simp only [Cmp]
  refine ⟨fun _ => ?_, fun _ => ?_⟩
  · refine sq_exp ?_
    simp only [vE, vT, vA, onLoc, onStr, onLst, onInt, onTup, onList, onB, Bin, small, goOn, retOf, turnEnd, List.map_cons, List.map_nil, List.append_nil, List.cons_append, List.nil_append, List.replicate, List.getElem?_cons_zero, List.getElem?_cons_succ, List.set_cons_zero, List.set_cons_succ, List.length_cons, List.length_nil, List.length_append, Nat.zero_add, Nat.reduceAdd, Nat.add_zero, onCel, B3.h0, B3.h4, Len, App, sl_length]
    refine ⟨by omega, by decide, by rw [mkr_len]; omega, ?_⟩
    have B4 := B3.set4 (fs' := fs ++ ([((wide ++ ps.flatten).length + 1, "unfinished_comment")] : List (Nat × Str)))
    rw [mkr_append] at B4
    have B4 : BI (hp3.set 4 (.list (mkr fs ++ [.tup [.int (((wide.length + ps.flatten.length : Nat) : Int) + 1), .str (PySem.Str.ofString "unfinished_comment")]]))) (wide ++ ps.flatten) due (fs ++ ([((wide ++ ps.flatten).length + 1, "unfinished_comment")] : List (Nat × Str))) := by
      rw [← List.length_append]
      exact B4
    refine sq_augC ?_
    simp only [vE, vT, vA, onLoc, onStr, onLst, onInt, onTup, onList, onB, Bin, small, goOn, retOf, turnEnd, List.map_cons, List.map_nil, List.append_nil, List.cons_append, List.nil_append, List.replicate, List.getElem?_cons_zero, List.getElem?_cons_succ, List.set_cons_zero, List.set_cons_succ, List.length_cons, List.length_nil, List.length_append, Nat.zero_add, Nat.reduceAdd, Nat.add_zero, onCel, B4.h0, Aug, nl_eq, sl_append, sl_length, isCel]
    refine ⟨by omega, ?_⟩
    refine sq_skip ?_
    simp only [vE, vT, vA, onLoc, onStr, onLst, onInt, onTup, onList, onB, Bin, small, goOn, retOf, turnEnd, List.map_cons, List.map_nil, List.append_nil, List.cons_append, List.nil_append, List.replicate, List.getElem?_cons_zero, List.getElem?_cons_succ, List.set_cons_zero, List.set_cons_succ, List.length_cons, List.length_nil, List.length_append, Nat.zero_add, Nat.reduceAdd, Nat.add_zero]
    refine lawMid O (pre_end2 Q.pre k1) (by rw [List.length_append, hu]; omega) (by have := B4.set0 (wide' := wide ++ ps.flatten ++ unf); exact this) Q.dp (by omega) ?_ ?_ (by simp only [List.length_append, List.length_cons, List.length_nil]; omega)
    · refine List.pairwise_append.mpr ⟨Q.asc, List.pairwise_singleton _ _, fun m hm m' hm' => ?_⟩
      cases List.mem_singleton.mp hm'
      have := Q.bel m hm
      show m.1 < (wide ++ ps.flatten).length + 1
      rw [List.length_append]
      omega
    · intro m hm
      rcases List.mem_append.mp hm with hm | hm
      · exact Q.ok m hm
      · cases List.mem_singleton.mp hm
        exact ok_codes.2.2.2.2.2.1
  · refine sq_skip ?_
    simp only [vE, vT, vA, onLoc, onStr, onLst, onInt, onTup, onList, onB, Bin, small, goOn, retOf, turnEnd, List.map_cons, List.map_nil, List.append_nil, List.cons_append, List.nil_append, List.replicate, List.getElem?_cons_zero, List.getElem?_cons_succ, List.set_cons_zero, List.set_cons_succ, List.length_cons, List.length_nil, List.length_append, Nat.zero_add, Nat.reduceAdd, Nat.add_zero]
    exact lawMid O (pre_end Q.pre k1) (by omega) B3 Q.dp (by omega) Q.asc Q.ok (by omega)
end
end Mine
end
section
set_option maxRecDepth 20000
namespace Mine
noncomputable def lastS (n : Nat) : Str := if n = 1 then "word" else if n = 2 then "mark" else ""
theorem prs_ok (n : Nat) : ∀ ms : List (Str × Nat), Prs n (mAV ms) = some (mkr (fltOf ms n))
  | [] => rfl
  | m :: ms => by
    have := prs_ok n ms
    show (Prs n (mAV ms)).map _ = _
    rw [this]
    show some (AV.tup [.int ((n : Int) + (m.2 : Int)), .str m.1] :: mkr (fltOf ms n)) = some (mk1 (n + m.2) m.1 :: mkr (fltOf ms n))
    unfold mk1
    rw [Int.natCast_add]
theorem due_append (a b : List (Str × AV × Nat)) : dueAV (a ++ b) = dueAV a ++ dueAV b := List.map_append
theorem flt_len (ms : List (Str × Nat)) (p : Nat) : (fltOf ms p).length = ms.length := List.length_map _
theorem bp_step {k : Nat} {wide : List Nat} {due : List (Str × AV × Nat)} {fs : List (Nat × Str)} {last : Nat} (h : BP k wide due fs last) {row tail : List Nat} {cls : Nat} {kind : Option Str} {val : AV} {ms : List (Str × Nat)} (D : Drawn row tail cls kind val ms) {ps : List (List Nat)} (hps : ∀ p ∈ ps, p ∈ pcs) (hpl : ps.flatten.length ≤ 60) {must : Bool} (hm : must = true → ps ≠ [])
    (h1 : last = 1 → must = false → cls ≠ 1 ∧ row[0]? ≠ some 46) (h2 : last = 2 → must = false → cls ≠ 2) :
    BP (k + 1) (wide ++ ps.flatten ++ (row ++ tail)) (due ++ dueOf kind val (wide.length + ps.flatten.length)) (fs ++ fltOf ms (wide.length + ps.flatten.length)) cls := by
  have F := D.df
  have hrw := F.rw
  obtain ⟨c, t, hct⟩ : ∃ c t, row = c :: t := by
    cases row with
    | nil => cases hrw
    | cons c t => exact ⟨c, t, rfl⟩
  rw [hct] at hrw
  simp only [rowOk, Bool.and_eq_true, Bool.or_eq_true, beq_iff_eq, decide_eq_true_eq] at hrw
  obtain ⟨⟨⟨⟨⟨r1, r2⟩, r3⟩, r4⟩, r5⟩, r6⟩ := hrw
  rw [← hct] at r4
  have hwl := h.wl
  have hdl := h.dl
  have hfl := h.fl
  have hln := F.ln
  refine ⟨pre_step h.pre D hps hm h1 h2, ?_, ?_, ?_, ?_, ?_, ?_, ?_, r6⟩
  · simp only [List.length_append]; omega
  · rw [List.length_append]
    cases kind <;> simp only [dueOf, List.length_cons, List.length_nil] <;> omega
  · rw [List.length_append, flt_len]; omega
  · refine List.pairwise_append.mpr ⟨h.asc, ?_, fun m hm' m' hm2 => ?_⟩
    · unfold fltOf
      rw [List.pairwise_map]
      exact F.asc.imp fun z => Nat.add_lt_add_left z _
    · obtain ⟨m0, _, rfl⟩ := List.mem_map.mp hm2
      have := h.bel m hm'
      show m.1 < wide.length + ps.flatten.length + m0.2
      omega
  · intro m hm'
    simp only [List.length_append]
    rcases List.mem_append.mp hm' with hm' | hm'
    · have := h.bel m hm'; omega
    · obtain ⟨m0, h0, rfl⟩ := List.mem_map.mp hm'
      have := (F.mks m0 h0).2
      show wide.length + ps.flatten.length + m0.2 < _
      omega
  · intro m hm'
    rcases List.mem_append.mp hm' with hm' | hm'
    · exact h.ok m hm'
    · obtain ⟨m0, h0, rfl⟩ := List.mem_map.mp hm'
      exact (F.mks m0 h0).1
  · intro d hd
    rcases List.mem_append.mp hd with hd | hd
    · exact h.dp d hd
    · cases kind with
      | none => cases hd
      | some k =>
        cases List.mem_singleton.mp hd
        exact ⟨F.kd k rfl, F.vl⟩
noncomputable def irB4 : IS := (.seq (.augC 0 .Add (.call aGap (.cons (.loc 1) (.cons (.loc 12) .nil))))
  (.seq (.ext 4 (.prs 0 10))
  (.seq (.ife (.nn (.loc 8)) (.seq (.exp (.app (.loc 3) (.tup (.cons (.loc 8) (.cons (.loc 9) (.cons (.len (.cel 0)) .nil))))))
  .skip) .skip)
  (.seq (.augC 0 .Add (.loc 7))
  (.seq (.set 5 (.ite (.pl (.loc 11)) (.str "word") (.ite (.cmp .Eq (.loc 8) (.loc 7)) (.str "mark") (.str ""))))
  .skip)))))
noncomputable def irB5 : IS := (.seq (.ife (.nn (.loc 8)) (.seq (.exp (.app (.loc 3) (.tup (.cons (.loc 8) (.cons (.loc 9) (.cons (.len (.cel 0)) .nil))))))
  .skip) .skip)
  (.seq (.augC 0 .Add (.loc 7))
  (.seq (.set 5 (.ite (.pl (.loc 11)) (.str "word") (.ite (.cmp .Eq (.loc 8) (.loc 7)) (.str "mark") (.str ""))))
  .skip)))
noncomputable def irB6 : IS := (.seq (.augC 0 .Add (.loc 7))
  (.seq (.set 5 (.ite (.pl (.loc 11)) (.str "word") (.ite (.cmp .Eq (.loc 8) (.loc 7)) (.str "mark") (.str ""))))
  .skip))
theorem cmp_ns {hp : List AO} {x : Str} {k : Bool → Prop} : Cmp hp .Eq .none (.str x) k = ((True ∧ PyData.strOk x = true) ∧ k false) := by simp [Cmp, view, isPlain, toPy, PyData.eqv]
theorem cmp_ss {hp : List AO} {x y : Str} {k : Bool → Prop} : Cmp hp .Eq (.str x) (.str y) k = k (x == y) := rfl
section
variable {G : Gl}
theorem lawB6 (O : Ok G) {hp : List AO} {wide row tail : List Nat} {due : List (Str × AV × Nat)} {fs : List (Nat × Str)} {cls : Nat} {kind : Option Str} {val : AV} {ms : List (Str × Nat)} (D : Drawn row tail cls kind val ms) (B : BI hp wide due fs) (hw : wide.length ≤ 2000) {o0 o5 o6 o9 o10 o12 : Option AV} {Q : AFl → ASt → Prop}
    (h : ∀ hp', BI hp' (wide ++ (row ++ tail)) due fs → Q .next ⟨[o0, some (.obj 2), none, some (.obj 3), some (.obj 4), some (.str (lastS cls)), o6, some (.str (sl (row ++ tail))), some (kAV kind), o9, o10, some (.bool (cls == 1)), o12, none, none, none, none, none, none, none, none, none, none, none, none, none, none, none], hp'⟩) :
    vS G 40 irB6 ⟨[o0, some (.obj 2), none, some (.obj 3), some (.obj 4), o5, o6, some (.str (sl (row ++ tail))), some (kAV kind), o9, o10, some (.bool (cls == 1)), o12, none, none, none, none, none, none, none, none, none, none, none, none, none, none, none], hp⟩ Q := by
  unfold irB6
  have hsz : sizeLine = 16777216 := sizeLine_eq
  have F := D.df
  have hrw := F.rw
  obtain ⟨c, t, hct⟩ : ∃ c t, row = c :: t := by
    cases row with
    | nil => cases hrw
    | cons c t => exact ⟨c, t, rfl⟩
  rw [hct] at hrw
  simp only [rowOk, Bool.and_eq_true, Bool.or_eq_true, beq_iff_eq, decide_eq_true_eq] at hrw
  obtain ⟨⟨⟨⟨⟨r1, r2⟩, r3⟩, r4⟩, r5⟩, r6⟩ := hrw
  rw [← hct] at r3 r4
  refine sq_augC ?_
  simp only [vE, vT, vA, onLoc, onStr, onLst, onInt, onTup, onList, onB, Bin, small, goOn, retOf, turnEnd, List.map_cons, List.map_nil, List.append_nil, List.cons_append, List.nil_append, List.replicate, List.getElem?_cons_zero, List.getElem?_cons_succ, List.set_cons_zero, List.set_cons_succ, List.length_cons, List.length_nil, List.length_append, Nat.zero_add, Nat.reduceAdd, Nat.add_zero, onCel, B.h0, Aug, sl_append, sl_length, isCel]
  refine ⟨by rw [hsz]; omega, ?_⟩
  have B1 := B.set0 (wide' := wide ++ (row ++ tail))
  generalize hp.set 0 (.cell (some (.str (sl (wide ++ (row ++ tail)))))) = hp1 at *
  refine sq_set ?_
  simp only [vE, vT, vA, onLoc, onStr, onLst, onInt, onTup, onList, onB, Bin, small, goOn, retOf, turnEnd, List.map_cons, List.map_nil, List.append_nil, List.cons_append, List.nil_append, List.replicate, List.getElem?_cons_zero, List.getElem?_cons_succ, List.set_cons_zero, List.set_cons_succ, List.length_cons, List.length_nil, List.length_append, Nat.zero_add, Nat.reduceAdd, Nat.add_zero]
  refine ⟨fun e => ?_, fun e => ?_⟩
  · have e := beq_iff_eq.mp e
    subst e
    refine sq_skip ?_
    exact h hp1 B1
  · have e := beq_eq_false_iff_ne.mp e
    have h' : ∀ b : Bool, (b = true ↔ cls = 2) → fork b (vS G 40 .skip ⟨[o0, some (.obj 2), none, some (.obj 3), some (.obj 4), some (.str (PySem.Str.ofString "mark")), o6, some (.str (sl (row ++ tail))), some (kAV kind), o9, o10, some (.bool (cls == 1)), o12, none, none, none, none, none, none, none, none, none, none, none, none, none, none, none], hp1⟩ Q) (vS G 40 .skip ⟨[o0, some (.obj 2), none, some (.obj 3), some (.obj 4), some (.str (PySem.Str.ofString "")), o6, some (.str (sl (row ++ tail))), some (kAV kind), o9, o10, some (.bool (cls == 1)), o12, none, none, none, none, none, none, none, none, none, none, none, none, none, none, none], hp1⟩ Q) := by
      intro b hb
      have h0 := h hp1 B1
      refine ⟨fun z => sq_skip ?_, fun z => sq_skip ?_⟩
      · have := hb.mp z
        subst this
        exact h0
      · have : cls ≠ 2 := fun y => by have := hb.mpr y; rw [z] at this; cases this
        rw [show lastS cls = PySem.Str.ofString "" by unfold lastS; rw [if_neg e, if_neg this]] at h0
        exact h0
    cases kind with
    | none =>
      simp only [kAV, cmp_ns]
      refine ⟨⟨trivial, F.sg⟩, ?_⟩
      exact h' false ⟨fun z => (by cases z), fun z => (by rw [z] at r3; cases r3)⟩
    | some k =>
      simp only [kAV, cmp_ss]
      refine h' _ ?_
      simp only [Bool.or_eq_true, beq_iff_eq] at r3
      rcases r3 with r3 | r3
      · exact absurd r3 e
      · rw [r3, beq_iff_eq]
end
end Mine
end
section
set_option maxRecDepth 20000
namespace Mine
section
variable {G : Gl}
theorem lawB5 (O : Ok G) {hp : List AO} {wide row tail : List Nat} {due : List (Str × AV × Nat)} {fs : List (Nat × Str)} {cls : Nat} {kind : Option Str} {val : AV} {ms : List (Str × Nat)} (D : Drawn row tail cls kind val ms) (B : BI hp wide due fs) (hw : wide.length ≤ 2000) (hdl : due.length ≤ 100) {o0 o5 o6 o10 o12 : Option AV} {Q : AFl → ASt → Prop}
    (h : ∀ hp', BI hp' (wide ++ (row ++ tail)) (due ++ dueOf kind val wide.length) fs → Q .next ⟨[o0, some (.obj 2), none, some (.obj 3), some (.obj 4), some (.str (lastS cls)), o6, some (.str (sl (row ++ tail))), some (kAV kind), some val, o10, some (.bool (cls == 1)), o12, none, none, none, none, none, none, none, none, none, none, none, none, none, none, none], hp'⟩) :
    vS G 40 irB5 ⟨[o0, some (.obj 2), none, some (.obj 3), some (.obj 4), o5, o6, some (.str (sl (row ++ tail))), some (kAV kind), some val, o10, some (.bool (cls == 1)), o12, none, none, none, none, none, none, none, none, none, none, none, none, none, none, none], hp⟩ Q := by
  unfold irB5
  have hsz : sizeLine = 16777216 := sizeLine_eq
  refine sq_ife ?_
  cases kind with
  | none =>
    simp only [vE, vT, vA, onLoc, onStr, onLst, onInt, onTup, onList, onB, Bin, small, goOn, retOf, turnEnd, List.map_cons, List.map_nil, List.append_nil, List.cons_append, List.nil_append, List.replicate, List.getElem?_cons_zero, List.getElem?_cons_succ, List.set_cons_zero, List.set_cons_succ, List.length_cons, List.length_nil, List.length_append, Nat.zero_add, Nat.reduceAdd, Nat.add_zero, kAV, onNN]
    refine fork_f ?_
    refine sq_skip ?_
    rw [show due ++ dueOf none val wide.length = due from List.append_nil _] at h
    exact lawB6 O D B hw h
  | some k =>
    simp only [vE, vT, vA, onLoc, onStr, onLst, onInt, onTup, onList, onB, Bin, small, goOn, retOf, turnEnd, List.map_cons, List.map_nil, List.append_nil, List.cons_append, List.nil_append, List.replicate, List.getElem?_cons_zero, List.getElem?_cons_succ, List.set_cons_zero, List.set_cons_succ, List.length_cons, List.length_nil, List.length_append, Nat.zero_add, Nat.reduceAdd, Nat.add_zero, kAV, onNN]
    refine fork_t ?_
    refine sq_exp ?_
    simp only [vE, vT, vA, onLoc, onStr, onLst, onInt, onTup, onList, onB, Bin, small, goOn, retOf, turnEnd, List.map_cons, List.map_nil, List.append_nil, List.cons_append, List.nil_append, List.replicate, List.getElem?_cons_zero, List.getElem?_cons_succ, List.set_cons_zero, List.set_cons_succ, List.length_cons, List.length_nil, List.length_append, Nat.zero_add, Nat.reduceAdd, Nat.add_zero, onCel, B.h0, B.h3, Len, App, sl_length]
    refine ⟨by rw [hsz]; omega, by decide, by unfold dueAV; rw [List.length_map, hsz]; omega, ?_⟩
    refine sq_skip ?_
    have B1 := B.set3 (due' := due ++ dueOf (some k) val wide.length)
    rw [due_append] at B1
    exact lawB6 O D B1 hw h
theorem lawB4 (O : Ok G) {hp : List AO} {k : Nat} {wide row tail : List Nat} {due : List (Str × AV × Nat)} {fs : List (Nat × Str)} {last cls : Nat} {kind : Option Str} {val : AV} {ms : List (Str × Nat)} (D : Drawn row tail cls kind val ms) (B : BI hp wide due fs) (Q0 : BP k wide due fs last) (hk : k < 9) {must : Bool}
    (h1 : last = 1 → must = false → cls ≠ 1 ∧ row[0]? ≠ some 46) (h2 : last = 2 → must = false → cls ≠ 2) {o0 o5 o6 : Option AV} {Q : AFl → ASt → Prop}
    (h : ∀ hp' wide' due' fs', BI hp' wide' due' fs' → BP (k + 1) wide' due' fs' cls → Q .next ⟨[o0, some (.obj 2), none, some (.obj 3), some (.obj 4), some (.str (lastS cls)), o6, some (.str (sl (row ++ tail))), some (kAV kind), some val, some (.lst (mAV ms)), some (.bool (cls == 1)), some (.bool must), none, none, none, none, none, none, none, none, none, none, none, none, none, none, none], hp'⟩) :
    vS G 40 irB4 ⟨[o0, some (.obj 2), none, some (.obj 3), some (.obj 4), o5, o6, some (.str (sl (row ++ tail))), some (kAV kind), some val, some (.lst (mAV ms)), some (.bool (cls == 1)), some (.bool must), none, none, none, none, none, none, none, none, none, none, none, none, none, none, none], hp⟩ Q := by
  unfold irB4
  have hsz : sizeLine = 16777216 := sizeLine_eq
  have hw := Q0.wl
  have hdl := Q0.dl
  have hfl := Q0.fl
  have hln := D.df.ln
  refine sq_augC ?_
  simp only [vE, vT, vA, onLoc, onStr, onLst, onInt, onTup, onList, onB, Bin, small, goOn, retOf, turnEnd, List.map_cons, List.map_nil, List.append_nil, List.cons_append, List.nil_append, List.replicate, List.getElem?_cons_zero, List.getElem?_cons_succ, List.set_cons_zero, List.set_cons_succ, List.length_cons, List.length_nil, List.length_append, Nat.zero_add, Nat.reduceAdd, Nat.add_zero, onCel, B.h0]
  refine c_gap O (by omega) B.pool fun ps hp1 k1 k2 k3 P1 N1 => ?_
  have B1 := B.nb P1 N1
  simp only [Aug, sl_append, sl_length, isCel, B1.h0]
  refine ⟨by omega, ?_⟩
  have B2 := B1.set0 (wide' := wide ++ ps.flatten)
  generalize hp1.set 0 (.cell (some (.str (sl (wide ++ ps.flatten))))) = hp2 at *
  have wl2 : (wide ++ ps.flatten).length ≤ 960 := by rw [List.length_append]; omega
  refine sq_ext ?_
  simp only [vE, vT, vA, onLoc, onStr, onLst, onInt, onTup, onList, onB, Bin, small, goOn, retOf, turnEnd, List.map_cons, List.map_nil, List.append_nil, List.cons_append, List.nil_append, List.replicate, List.getElem?_cons_zero, List.getElem?_cons_succ, List.set_cons_zero, List.set_cons_succ, List.length_cons, List.length_nil, List.length_append, Nat.zero_add, Nat.reduceAdd, Nat.add_zero, onCel, B2.h0, onPrs, sl_length, prs_ok, Ext, B2.h4, seqOf]
  have hml : (mAV ms).length = ms.length := List.length_map _
  refine ⟨⟨by omega, by omega⟩, by rw [mkr_len, mkr_len, flt_len]; omega, ?_⟩
  rw [← mkr_append]
  have B3 := B2.set4 (fs' := fs ++ fltOf ms (wide.length + ps.flatten.length))
  have hp' := bp_step Q0 D k1 k3 k2 h1 h2
  refine lawB5 O D B3 (by omega) (by omega) fun hp3 B4 => ?_
  rw [List.length_append] at B4
  exact h hp3 _ _ _ B4 hp'
end
end Mine
end
section
set_option maxRecDepth 20000
namespace Mine
noncomputable def irB3 : IS := (.seq (.set 12 (.or (.and (.cmp .Eq (.loc 5) (.str "word")) (.or (.loc 11) (.cmp .Eq (.idx (.loc 7) (.int 0)) (.str ".")))) (.and (.cmp .Eq (.loc 5) (.str "mark")) (.cmp .Eq (.loc 8) (.loc 7)))))
  (.seq (.augC 0 .Add (.call aGap (.cons (.loc 1) (.cons (.loc 12) .nil))))
  (.seq (.ext 4 (.prs 0 10))
  (.seq (.ife (.nn (.loc 8)) (.seq (.exp (.app (.loc 3) (.tup (.cons (.loc 8) (.cons (.loc 9) (.cons (.len (.cel 0)) .nil))))))
  .skip) .skip)
  (.seq (.augC 0 .Add (.loc 7))
  (.seq (.set 5 (.ite (.pl (.loc 11)) (.str "word") (.ite (.cmp .Eq (.loc 8) (.loc 7)) (.str "mark") (.str ""))))
  .skip))))))
noncomputable def irB2 : IS := (.seq (.set 11 (.and (.isalnum (.idx (.loc 7) (.int 0))) (.cmp .Lt (.idx (.loc 7) (.int 0)) (.chr (.int 128)))))
  (.seq (.set 12 (.or (.and (.cmp .Eq (.loc 5) (.str "word")) (.or (.loc 11) (.cmp .Eq (.idx (.loc 7) (.int 0)) (.str ".")))) (.and (.cmp .Eq (.loc 5) (.str "mark")) (.cmp .Eq (.loc 8) (.loc 7)))))
  (.seq (.augC 0 .Add (.call aGap (.cons (.loc 1) (.cons (.loc 12) .nil))))
  (.seq (.ext 4 (.prs 0 10))
  (.seq (.ife (.nn (.loc 8)) (.seq (.exp (.app (.loc 3) (.tup (.cons (.loc 8) (.cons (.loc 9) (.cons (.len (.cel 0)) .nil))))))
  .skip) .skip)
  (.seq (.augC 0 .Add (.loc 7))
  (.seq (.set 5 (.ite (.pl (.loc 11)) (.str "word") (.ite (.cmp .Eq (.loc 8) (.loc 7)) (.str "mark") (.str ""))))
  .skip)))))))
theorem s_eqs : (PySem.Str.ofString "word" == PySem.Str.ofString "word") = true ∧ (PySem.Str.ofString "word" == PySem.Str.ofString "mark") = false ∧ (PySem.Str.ofString "mark" == PySem.Str.ofString "word") = false ∧ (PySem.Str.ofString "mark" == PySem.Str.ofString "mark") = true ∧ (PySem.Str.ofString "" == PySem.Str.ofString "word") = false ∧ (PySem.Str.ofString "" == PySem.Str.ofString "mark") = false := by decide
theorem sd_46 (c : Nat) : (sl [c] == PySem.Str.ofString ".") = decide (c = 46) := by
  rw [show PySem.Str.ofString "." = sl [46] by decide, sl_beq, Bool.eq_iff_iff, beq_iff_eq, decide_eq_true_eq]
  exact ⟨fun h => List.head_eq_of_cons_eq h, fun h => by rw [h]⟩
theorem item0 (c : Nat) (t : List Nat) : Txt.item (sl (c :: t)) 0 = sl [c] := by
  rw [item_meets ⟨Int.le_refl _, by rw [sl_length, List.length_cons]; omega⟩]
  rfl
theorem idx0 {hp : List AO} {c : Nat} {t : List Nat} {k : AV → Prop} : Idx hp (.str (sl (c :: t))) (.int 0) k = ((0 ≤ (0 : Int) ∧ (0 : Int) < (sl (c :: t)).length ∧ (sl (c :: t)).length ≤ sizeLine) ∧ k (.str (sl [c]))) := by
  rw [← item0 c t]; rfl
section
variable {G : Gl}
theorem lawB3 (O : Ok G) {hp : List AO} {k : Nat} {wide row tail : List Nat} {due : List (Str × AV × Nat)} {fs : List (Nat × Str)} {last cls : Nat} {kind : Option Str} {val : AV} {ms : List (Str × Nat)} (D : Drawn row tail cls kind val ms) (B : BI hp wide due fs) (Q0 : BP k wide due fs last) (hk : k < 9) {o0 o6 o12 : Option AV} {Q : AFl → ASt → Prop}
    (h : ∀ hp' wide' due' fs' o12', BI hp' wide' due' fs' → BP (k + 1) wide' due' fs' cls → Q .next ⟨[o0, some (.obj 2), none, some (.obj 3), some (.obj 4), some (.str (lastS cls)), o6, some (.str (sl (row ++ tail))), some (kAV kind), some val, some (.lst (mAV ms)), some (.bool (cls == 1)), o12', none, none, none, none, none, none, none, none, none, none, none, none, none, none, none], hp'⟩) :
    vS G 40 irB3 ⟨[o0, some (.obj 2), none, some (.obj 3), some (.obj 4), some (.str (lastS last)), o6, some (.str (sl (row ++ tail))), some (kAV kind), some val, some (.lst (mAV ms)), some (.bool (cls == 1)), o12, none, none, none, none, none, none, none, none, none, none, none, none, none, none, none], hp⟩ Q := by
  unfold irB3
  have hsz : sizeLine = 16777216 := sizeLine_eq
  have F := D.df
  have hrw := F.rw
  obtain ⟨c, t, rfl⟩ : ∃ c t, row = c :: t := by
    cases row with
    | nil => cases hrw
    | cons c t => exact ⟨c, t, rfl⟩
  simp only [rowOk, Bool.and_eq_true, Bool.or_eq_true, beq_iff_eq, decide_eq_true_eq] at hrw
  obtain ⟨⟨⟨⟨⟨r1, r2⟩, r3⟩, r4⟩, r5⟩, r6⟩ := hrw
  have hrl : (sl (c :: (t ++ tail))).length ≤ 40 := by rw [sl_length]; simp only [List.length_cons, List.length_append] at r4 ⊢; omega
  have hrp : 0 < (sl (c :: (t ++ tail))).length := by rw [sl_length]; simp
  have go : ∀ must : Bool, (last = 1 → must = false → cls ≠ 1 ∧ (c :: t)[0]? ≠ some 46) → (last = 2 → must = false → cls ≠ 2) → vS G 40 irB4 ⟨[o0, some (.obj 2), none, some (.obj 3), some (.obj 4), some (.str (lastS last)), o6, some (.str (sl (c :: t ++ tail))), some (kAV kind), some val, some (.lst (mAV ms)), some (.bool (cls == 1)), some (.bool must), none, none, none, none, none, none, none, none, none, none, none, none, none, none, none], hp⟩ Q :=
    fun must h1 h2 => lawB4 O D B Q0 hk h1 h2 fun hp' w' d' f' a b => h hp' w' d' f' _ a b
  have lt := Q0.lt
  have s := s_eqs
  obtain ⟨s1, s2, s3, s4, s5, s6⟩ := s
  have hl : last = 0 ∨ last = 1 ∨ last = 2 := by omega
  refine sq_set ?_
  rcases hl with rfl | rfl | rfl
  · rw [show lastS 0 = PySem.Str.ofString "" from rfl] at go ⊢
    simp only [vE, vT, vA, onLoc, onStr, onLst, onInt, onTup, onList, onB, Bin, small, goOn, retOf, turnEnd, List.map_cons, List.map_nil, List.append_nil, List.cons_append, List.nil_append, List.replicate, List.getElem?_cons_zero, List.getElem?_cons_succ, List.set_cons_zero, List.set_cons_succ, List.length_cons, List.length_nil, List.length_append, Nat.zero_add, Nat.reduceAdd, Nat.add_zero, cmp_ss, s5, s6]
    refine fork_f (fork_f (fork_f ?_))
    exact go false (fun z => (by cases z)) (fun z => (by cases z))
  · rw [show lastS 1 = PySem.Str.ofString "word" from rfl] at go ⊢
    simp only [vE, vT, vA, onLoc, onStr, onLst, onInt, onTup, onList, onB, Bin, small, goOn, retOf, turnEnd, List.map_cons, List.map_nil, List.append_nil, List.cons_append, List.nil_append, List.replicate, List.getElem?_cons_zero, List.getElem?_cons_succ, List.set_cons_zero, List.set_cons_succ, List.length_cons, List.length_nil, List.length_append, Nat.zero_add, Nat.reduceAdd, Nat.add_zero, cmp_ss, s1, s2]
    refine fork_t ?_
    refine ⟨fun e => ?_, fun e => ?_⟩
    · rw [e]
      refine fork_t ?_
      rw [e] at go
      exact go true (fun _ z => (by cases z)) (fun _ z => (by cases z))
    · rw [idx0, cmp_ss, sd_46]
      refine ⟨⟨by decide, by omega, by omega⟩, fun e2 => ?_, fun e2 => ?_⟩
      · exact go true (fun _ z => (by cases z)) (fun _ z => (by cases z))
      · refine fork_f ?_
        refine go false (fun _ _ => ⟨beq_eq_false_iff_ne.mp e, fun z => ?_⟩) (fun z => (by cases z))
        exact absurd (Option.some.inj z) (of_decide_eq_false e2)
  · rw [show lastS 2 = PySem.Str.ofString "mark" from rfl] at go ⊢
    simp only [vE, vT, vA, onLoc, onStr, onLst, onInt, onTup, onList, onB, Bin, small, goOn, retOf, turnEnd, List.map_cons, List.map_nil, List.append_nil, List.cons_append, List.nil_append, List.replicate, List.getElem?_cons_zero, List.getElem?_cons_succ, List.set_cons_zero, List.set_cons_succ, List.length_cons, List.length_nil, List.length_append, Nat.zero_add, Nat.reduceAdd, Nat.add_zero, cmp_ss, s3, s4]
    refine fork_f (fork_f (fork_t ?_))
    cases kind with
    | none =>
      simp only [kAV, cmp_ns]
      refine ⟨⟨trivial, F.sg⟩, ?_⟩
      exact go false (fun z => (by cases z)) (fun _ _ z => (by rw [z] at r3; cases r3))
    | some k =>
      simp only [kAV, cmp_ss]
      refine go _ (fun z => (by cases z)) (fun _ z1 z2 => ?_)
      simp only [Bool.or_eq_true, beq_iff_eq, z2] at r3
      rcases r3 with r3 | r3
      · cases r3
      · have z1 : (k == sl (c :: t ++ tail)) = false := z1
        rw [z1] at r3; cases r3
theorem lawB2 (O : Ok G) {hp : List AO} {k : Nat} {wide row tail : List Nat} {due : List (Str × AV × Nat)} {fs : List (Nat × Str)} {last cls : Nat} {kind : Option Str} {val : AV} {ms : List (Str × Nat)} (D : Drawn row tail cls kind val ms) (B : BI hp wide due fs) (Q0 : BP k wide due fs last) (hk : k < 9) {o0 o6 o11 o12 : Option AV} {Q : AFl → ASt → Prop}
    (h : ∀ hp' wide' due' fs' o12', BI hp' wide' due' fs' → BP (k + 1) wide' due' fs' cls → Q .next ⟨[o0, some (.obj 2), none, some (.obj 3), some (.obj 4), some (.str (lastS cls)), o6, some (.str (sl (row ++ tail))), some (kAV kind), some val, some (.lst (mAV ms)), some (.bool (cls == 1)), o12', none, none, none, none, none, none, none, none, none, none, none, none, none, none, none], hp'⟩) :
    vS G 40 irB2 ⟨[o0, some (.obj 2), none, some (.obj 3), some (.obj 4), some (.str (lastS last)), o6, some (.str (sl (row ++ tail))), some (kAV kind), some val, some (.lst (mAV ms)), o11, o12, none, none, none, none, none, none, none, none, none, none, none, none, none, none, none], hp⟩ Q := by
  unfold irB2
  have hsz : sizeLine = 16777216 := sizeLine_eq
  have go := lawB3 O D B Q0 hk (o0 := o0) (o6 := o6) (o12 := o12) h
  unfold irB3 at go
  have F := D.df
  have hrw := F.rw
  obtain ⟨c, t, rfl⟩ : ∃ c t, row = c :: t := by
    cases row with
    | nil => cases hrw
    | cons c t => exact ⟨c, t, rfl⟩
  simp only [rowOk, Bool.and_eq_true, Bool.or_eq_true, beq_iff_eq, decide_eq_true_eq] at hrw
  obtain ⟨⟨⟨⟨⟨r1, r2⟩, r3⟩, r4⟩, r5⟩, r6⟩ := hrw
  have hrl : (sl (c :: (t ++ tail))).length ≤ 40 := by rw [sl_length]; simp only [List.length_cons, List.length_append] at r4 ⊢; omega
  have hrp : 0 < (sl (c :: (t ++ tail))).length := by rw [sl_length]; simp
  refine sq_set ?_
  simp only [vE, vT, vA, onLoc, onStr, onLst, onInt, onTup, onList, onB, Bin, small, goOn, retOf, turnEnd, List.map_cons, List.map_nil, List.append_nil, List.cons_append, List.nil_append, List.replicate, List.getElem?_cons_zero, List.getElem?_cons_succ, List.set_cons_zero, List.set_cons_succ, List.length_cons, List.length_nil, List.length_append, Nat.zero_add, Nat.reduceAdd, Nat.add_zero, idx0]
  refine ⟨⟨by decide, by omega, by omega⟩, fun e => ?_, fun e => ?_⟩
  · simp only [vE, vT, vA, onLoc, onStr, onLst, onInt, onTup, onList, onB, Bin, small, goOn, retOf, turnEnd, List.map_cons, List.map_nil, List.append_nil, List.cons_append, List.nil_append, List.replicate, List.getElem?_cons_zero, List.getElem?_cons_succ, List.set_cons_zero, List.set_cons_succ, List.length_cons, List.length_nil, List.length_append, Nat.zero_add, Nat.reduceAdd, Nat.add_zero, Chr, Cmp]
    refine ⟨⟨by decide, by omega, by omega⟩, by decide, ?_⟩
    have : (decide ((sl [c]).cps.toList < (⟨#[(128 : Int).toNat]⟩ : Str).cps.toList)) = (cls == 1) := by
      rw [← r1, hd0, e, Bool.true_and]
      show decide ([c] < [128]) = decide (c < 128)
      by_cases h : c < 128 <;> simp [List.cons_lt_cons_iff, h]
    rw [this]
    exact go
  · have : (cls == 1) = false := by rw [← r1, hd0, e, Bool.false_and]
    rw [this] at go
    exact go
end
end Mine
end
section
set_option maxRecDepth 20000
namespace Mine
theorem BP.mono {k j : Nat} {wide : List Nat} {due : List (Str × AV × Nat)} {fs : List (Nat × Str)} {last : Nat} (h : BP k wide due fs last) (hj : k ≤ j) : BP j wide due fs last :=
  ⟨h.pre, Nat.le_trans h.wl (Nat.mul_le_mul_left _ hj), Nat.le_trans h.dl hj, Nat.le_trans h.fl (Nat.mul_le_mul_left _ hj), h.asc, h.bel, h.ok, h.dp, h.lt⟩
noncomputable def irLoop : IS := (.seq (.forR 6 (.bin .Add (.int 1) (.call aPick (.cons (.loc 1) (.cons (.int 9) .nil)))) (.seq (.many [7, 8, 9, 10] (.call aTok (.cons (.loc 1) .nil)))
  (.seq (.set 11 (.and (.isalnum (.idx (.loc 7) (.int 0))) (.cmp .Lt (.idx (.loc 7) (.int 0)) (.chr (.int 128)))))
  (.seq (.set 12 (.or (.and (.cmp .Eq (.loc 5) (.str "word")) (.or (.loc 11) (.cmp .Eq (.idx (.loc 7) (.int 0)) (.str ".")))) (.and (.cmp .Eq (.loc 5) (.str "mark")) (.cmp .Eq (.loc 8) (.loc 7)))))
  (.seq (.augC 0 .Add (.call aGap (.cons (.loc 1) (.cons (.loc 12) .nil))))
  (.seq (.ext 4 (.prs 0 10))
  (.seq (.ife (.nn (.loc 8)) (.seq (.exp (.app (.loc 3) (.tup (.cons (.loc 8) (.cons (.loc 9) (.cons (.len (.cel 0)) .nil))))))
  .skip) .skip)
  (.seq (.augC 0 .Add (.loc 7))
  (.seq (.set 5 (.ite (.pl (.loc 11)) (.str "word") (.ite (.cmp .Eq (.loc 8) (.loc 7)) (.str "mark") (.str ""))))
  .skip)))))))))
  (.seq (.augC 0 .Add (.call aGap (.cons (.loc 1) (.cons (.bool false) .nil))))
  (.seq (.ife (.cmp .Eq (.call aPick (.cons (.loc 1) (.cons (.int 4) .nil))) (.int 3)) (.seq (.exp (.app (.loc 4) (.tup (.cons (.bin .Add (.len (.cel 0)) (.int 1)) (.cons (.str "unfinished_comment") .nil)))))
  (.seq (.augC 0 .Add (.str " (* (* a *) * ) ("))
  .skip)) .skip)
  (.seq (.set 13 (.call aErrorList .nil))
  (.seq (.set 14 (.call aScanner (.cons (.cel 0) (.cons (.loc 13) .nil))))
  (.seq (.forL 15 (.ladd (.loc 3) (.lmul (.cons (.tup (.cons (.str "eof") (.cons (.str "") (.cons (.len (.cel 0)) .nil)))) .nil) 2)) (.seq (.set 16 (.meth aScanner aTake (.loc 14) .nil))
  (.seq (.ife (.cmp .NotEq (.tup (.cons (.attr 16 4) (.cons (.attr 16 5) (.cons (.attr 16 2) .nil)))) (.loc 15)) (.seq (.ret (.bool false))
  .skip) .skip)
  .skip)))
  (.seq (.set 17 (.ite (.cmp .NotEq (.loc 4) (.lst .nil)) (.idx (.sorted (.loc 4)) (.int 0)) .none))
  (.seq (.ret (.and (.cmp .Eq (.attr 13 6) (.loc 4)) (.and (.cmp .Eq (.meth aErrorList aFirst (.loc 13) .nil) (.loc 17)) (.cmp .Eq (.meth aErrorList aOk (.loc 13) .nil) (.cmp .Eq (.loc 4) (.lst .nil))))))
  .skip))))))))
inductive LpI (o0 : Option AV) (k : Nat) : ASt → Prop
  | mk (hp' : List AO) (wide : List Nat) (due : List (Str × AV × Nat)) (fs : List (Nat × Str)) (last : Nat) (o6 o7 o8 o9 o10 o11 o12 : Option AV) (B : BI hp' wide due fs) (Q : BP k wide due fs last) : LpI o0 k ⟨[o0, some (.obj 2), none, some (.obj 3), some (.obj 4), some (.str (lastS last)), o6, o7, o8, o9, o10, o11, o12, none, none, none, none, none, none, none, none, none, none, none, none, none, none, none], hp'⟩
section
variable {G : Gl}
theorem lawLoop (O : Ok G) {hp : List AO} (B : BI hp [] [] []) {o0 : Option AV} :
    vS G 40 irLoop ⟨[o0, some (.obj 2), none, some (.obj 3), some (.obj 4), some (.str (lastS 0)), none, none, none, none, none, none, none, none, none, none, none, none, none, none, none, none, none, none, none, none, none, none], hp⟩ (fun fl _ => retOf fl = .bool true) := by
  unfold irLoop
  refine sq_forR ?_
  simp only [vE, vT, vA, onLoc, onStr, onLst, onInt, onTup, onList, onB, Bin, small, goOn, retOf, turnEnd, List.map_cons, List.map_nil, List.append_nil, List.cons_append, List.nil_append, List.replicate, List.getElem?_cons_zero, List.getElem?_cons_succ, List.set_cons_zero, List.set_cons_succ, List.length_cons, List.length_nil, List.length_append, Nat.zero_add, Nat.reduceAdd, Nat.add_zero]
  refine c_pick' O (by omega) (by decide) B.pool fun v hp1 v0 v1 P1 N1 => ?_
  have B1 := B.nb P1 N1
  simp only [vE, vT, vA, onLoc, onStr, onLst, onInt, onTup, onList, onB, Bin, small, goOn, retOf, turnEnd, List.map_cons, List.map_nil, List.append_nil, List.cons_append, List.nil_append, List.replicate, List.getElem?_cons_zero, List.getElem?_cons_succ, List.set_cons_zero, List.set_cons_succ, List.length_cons, List.length_nil, List.length_append, Nat.zero_add, Nat.reduceAdd, Nat.add_zero]
  refine ⟨by omega, ?_⟩
  refine ⟨LpI o0,
    ⟨hp1, [], [], [], 0, none, none, none, none, none, none, none, B1, ⟨pre_nil, Nat.zero_le _, Nat.zero_le _, Nat.zero_le _, .nil, (fun _ h => nomatch h), (fun _ h => nomatch h), (fun _ h => nomatch h), by decide⟩⟩, ?_, ?_⟩
  · intro k a ha st1 hi
    obtain ⟨hp2, wide, due, fs, last, o6, o7, o8, o9, o10, o11, o12, B2, Q2⟩ := hi
    have hk : k < 9 := by
      have := (List.getElem?_eq_some_iff.mp ha).1
      simp only [upItems, List.length_map, List.length_range] at this
      omega
    refine sq_many ?_
    simp only [vE, vT, vA, onLoc, onStr, onLst, onInt, onTup, onList, onB, Bin, small, goOn, retOf, turnEnd, List.map_cons, List.map_nil, List.append_nil, List.cons_append, List.nil_append, List.replicate, List.getElem?_cons_zero, List.getElem?_cons_succ, List.set_cons_zero, List.set_cons_succ, List.length_cons, List.length_nil, List.length_append, Nat.zero_add, Nat.reduceAdd, Nat.add_zero]
    refine c_tok O (by omega) B2.pool fun row tail cls kind val ms hp3 D P3 N3 => ?_
    have B3 := B2.nb P3 N3
    simp only [vE, vT, vA, onLoc, onStr, onLst, onInt, onTup, onList, onB, Bin, small, goOn, retOf, turnEnd, List.map_cons, List.map_nil, List.append_nil, List.cons_append, List.nil_append, List.replicate, List.getElem?_cons_zero, List.getElem?_cons_succ, List.set_cons_zero, List.set_cons_succ, List.length_cons, List.length_nil, List.length_append, Nat.zero_add, Nat.reduceAdd, Nat.add_zero, dAV, setMany]
    refine ⟨trivial, ?_⟩
    have := lawB2 O D B3 Q2 hk (o0 := o0) (o6 := some a) (o11 := o11) (o12 := o12) (Q := turnEnd (goOn (fun st1 => vS G 40 irGap st1 (fun fl _ => retOf fl = .bool true)) (fun fl _ => retOf fl = .bool true)) (LpI o0 (k + 1))) (fun hp' w' d' f' o' b q => ⟨hp', w', d', f', cls, _, _, _, _, _, _, _, b, q⟩)
    unfold irB2 irGap at this
    exact this
  · intro st1 hi
    obtain ⟨hp2, wide, due, fs, last, o6, o7, o8, o9, o10, o11, o12, B2, Q2⟩ := hi
    simp only [upItems, List.length_map, List.length_range] at Q2
    simp only [vE, vT, vA, onLoc, onStr, onLst, onInt, onTup, onList, onB, Bin, small, goOn, retOf, turnEnd, List.map_cons, List.map_nil, List.append_nil, List.cons_append, List.nil_append, List.replicate, List.getElem?_cons_zero, List.getElem?_cons_succ, List.set_cons_zero, List.set_cons_succ, List.length_cons, List.length_nil, List.length_append, Nat.zero_add, Nat.reduceAdd, Nat.add_zero]
    have := lawGap O B2 (Q2.mono (by omega)) (o0 := o0) (o5 := some (.str (lastS last))) (o6 := o6) (o7 := o7) (o8 := o8) (o9 := o9) (o10 := o10) (o11 := o11) (o12 := o12)
    unfold irGap at this
    exact this
end
theorem body1 : Body1 := by
  intro G P hK hmt hct is hl
  have O : Ok G := ⟨⟨P, hK⟩, hmt, hct⟩
  unfold ir_law
  refine sq_set ?_
  simp only [vE, vT, vA, onLoc, onStr, onLst, onInt, onTup, onList, onB, Bin, small, goOn, retOf, turnEnd, List.map_cons, List.map_nil, List.append_nil, List.cons_append, List.nil_append, List.replicate, List.getElem?_cons_zero, List.getElem?_cons_succ, List.set_cons_zero, List.set_cons_succ, List.length_cons, List.length_nil, List.length_append, Nat.zero_add, Nat.reduceAdd, Nat.add_zero]
  refine c_pool O (is := is) (by omega) (by omega) fun hp1 hP1 hl1 hq => ?_
  have h0 : hp1[0]? = some (.cell none) := hq 0 (by decide)
  have hl1 : hp1.length = 3 := hl1
  obtain ⟨a, b, c, rfl⟩ := len3 hl1
  ·
    have ea : a = .cell none := Option.some.inj h0
    subst ea
    obtain ⟨figs, k, m, e1, e2, e3⟩ := hP1
    refine sq_setC ?_
    simp only [vE, vT, vA, onLoc, onStr, onLst, onInt, onTup, onList, onB, Bin, small, goOn, retOf, turnEnd, List.map_cons, List.map_nil, List.append_nil, List.cons_append, List.nil_append, List.replicate, List.getElem?_cons_zero, List.getElem?_cons_succ, List.set_cons_zero, List.set_cons_succ, List.length_cons, List.length_nil, List.length_append, Nat.zero_add, Nat.reduceAdd, Nat.add_zero, isCel]
    refine sq_set ?_
    simp only [vE, vT, vA, onLoc, onStr, onLst, onInt, onTup, onList, onB, Bin, small, goOn, retOf, turnEnd, List.map_cons, List.map_nil, List.append_nil, List.cons_append, List.nil_append, List.replicate, List.getElem?_cons_zero, List.getElem?_cons_succ, List.set_cons_zero, List.set_cons_succ, List.length_cons, List.length_nil, List.length_append, Nat.zero_add, Nat.reduceAdd, Nat.add_zero]
    refine ⟨by decide, ?_⟩
    refine sq_set ?_
    simp only [vE, vT, vA, onLoc, onStr, onLst, onInt, onTup, onList, onB, Bin, small, goOn, retOf, turnEnd, List.map_cons, List.map_nil, List.append_nil, List.cons_append, List.nil_append, List.replicate, List.getElem?_cons_zero, List.getElem?_cons_succ, List.set_cons_zero, List.set_cons_succ, List.length_cons, List.length_nil, List.length_append, Nat.zero_add, Nat.reduceAdd, Nat.add_zero]
    refine ⟨by decide, ?_⟩
    refine sq_set ?_
    simp only [vE, vT, vA, onLoc, onStr, onLst, onInt, onTup, onList, onB, Bin, small, goOn, retOf, turnEnd, List.map_cons, List.map_nil, List.append_nil, List.cons_append, List.nil_append, List.replicate, List.getElem?_cons_zero, List.getElem?_cons_succ, List.set_cons_zero, List.set_cons_succ, List.length_cons, List.length_nil, List.length_append, Nat.zero_add, Nat.reduceAdd, Nat.add_zero]
    have := lawLoop O (hp := [.cell (some (.str (sl []))), b, c, .list [], .list []]) (o0 := some (.lst (iv is))) ⟨rfl, ⟨figs, k, m, e1, e2, e3⟩, rfl, rfl, rfl⟩
    unfold irLoop at this
    exact this
end Mine
end
section
namespace Mine
set_option maxRecDepth 1000000 in
set_option maxHeartbeats 0 in
theorem left1 : Left1 := fun w => by
  kernel_rfl!
end Mine
end
section
namespace Mine
theorem holds : PySem.Challenge.rw_nu0329_01.Holds := en1 left1 body1
end Mine
end
set_option maxRecDepth 100000 in
set_option maxHeartbeats 8000000 in
theorem PySem.Challenge.cw_nu0329_01_holds : PySem.Challenge.rw_nu0329_01.Holds := by
  exact Mine.holds
